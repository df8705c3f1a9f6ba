import PyProof.Rows.All
import Wide.All
import OpenK.AllK
import Wide.FinOn
import HandS.ForMost
import HandS.Exc
import HandS.Wide
import HandS.WideBits
import KE.SortData
import HandS.Style
import HandS.IsInst
import KE.DataFind
import HandS.TupAny
import HandS.Deep
import HandS.Conv
import HandS.Dict
import KE.KDictKeyed
import KE.KeyNested
import PyProof.ReprRoads
import KE.DataMinMax
import KE.DataCmp
import HandS.TupMul
import KE.KDictSum
import HandS.TupLen
import HandS.ExcValue
import HandS.Zip
import HandS.More
import HandS.NoneIn
import HandS.ExcInit
import HandS.Words
import KE.KExcIs
import HandS.ExcIs
import HandS.ExcField
import KE.KRevSl
import HandS.ReCall
import HandS.DictComp
import HandS.Iter
import HandS.WordsExc
import HandS.Ends
import HandS.EndBits
import HandS.HeadHook3
import PyProof.ReprLen
import PyProof.FitsInt
import PyProof.ReprBulk
import PySem.Challenge.RW_wholeparts_k00_whole_terms_formed_and_me
set_option Elab.async false
set_option linter.all false
set_option maxRecDepth 100000
/-! A small language over PyData, and its evaluator. -/
namespace Ev
open PySem

/-! dicts: keys are ints and texts, or tuples (nested, of ints and None) -/
mutual
def plainKey : PyData → Bool
  | .int _ => true
  | .none => true
  | .tuple xs => plainKeys xs
  | _ => false
def plainKeys : List PyData → Bool
  | [] => true
  | x :: xs => plainKey x && plainKeys xs
end
def atomB : PyData → Bool
  | .int _ => true
  | .str _ => true
  | _ => false
def tupB : PyData → Bool
  | .tuple xs => plainKeys xs && decide ((PyData.tuple xs).depth ≤ 8)
  | _ => false
def keyFits (kvs : List (PyData × PyData)) (k : PyData) : Bool := (atomB k && kvs.all fun p => atomB p.1) || (tupB k && kvs.all fun p => tupB p.1)
def dGet (kvs : List (PyData × PyData)) (k : PyData) : Option PyData := (kvs.find? fun p => PyData.eqv p.1 k).map (·.2)
def dHas (kvs : List (PyData × PyData)) (k : PyData) : Bool := kvs.any fun p => PyData.eqv p.1 k
def dPut (kvs : List (PyData × PyData)) (k v : PyData) : List (PyData × PyData) := if dHas kvs k then kvs.map fun p => if PyData.eqv p.1 k then (p.1, v) else p else kvs ++ [(k, v)]
/-- what a container of the frame holds -/
inductive Con where
  | lst (xs : List PyData)
  | dct (kvs : List (PyData × PyData))
/-- what a slot holds: nothing told, data, an owned container (pin: the caller's; lock: it is walked) -/
inductive Vr where
  | no
  | d (x : PyData)
  | o (pin lock : Bool) (c : Con)
  | x (c : Nat) (v : PyData)
abbrev Rho := List Vr
/-- a value on its way: data, a fresh container, the container of slot i -/
inductive EV where
  | d (x : PyData)
  | o (c : Con)
  | b (i : Nat)
  | x (c : Nat) (v : PyData)
inductive Out (α : Type) where
  | stuck
  | ok (a : α) (ρ : Rho)
  | exc (c : Nat) (x : PyData) (ρ : Rho)
def Out.bind {α β : Type} (o : Out α) (f : α → Rho → Out β) : Out β :=
  match o with
  | .stuck => .stuck
  | .ok a ρ => f a ρ
  | .exc c x ρ => .exc c x ρ
@[simp] theorem Out.bind_ok {α β : Type} (a : α) (ρ : Rho) (f : α → Rho → Out β) : (Out.ok a ρ).bind f = f a ρ := rfl
@[simp] theorem Out.bind_stuck {α β : Type} (f : α → Rho → Out β) : (Out.stuck : Out α).bind f = .stuck := rfl
@[simp] theorem Out.bind_exc {α β : Type} (c : Nat) (x : PyData) (ρ : Rho) (f : α → Rho → Out β) : (Out.exc c x ρ : Out α).bind f = .exc c x ρ := rfl
/-- an option as an outcome at ρ -/
def Out.of {α : Type} (ρ : Rho) : Option α → Out α
  | some a => .ok a ρ
  | none => .stuck
@[simp] theorem Out.of_some {α : Type} (ρ : Rho) (a : α) : Out.of ρ (some a) = .ok a ρ := rfl
@[simp] theorem Out.of_none {α : Type} (ρ : Rho) : (Out.of ρ none : Out α) = .stuck := rfl

/-- the classes of errors: a fixed row of names; all are under the first one -/
def excNames : List Str := ["WholeError", "InvalidTerm", "InvalidCode", "InvalidNumber", "InvalidPart", "InvalidSaying", "InvalidValue", "InvalidParts", "InvalidPair", "InvalidLabel", "InvalidSum", "InvalidStep", "InvalidDiagram", "Unreadable", "InvalidPlace", "InvalidOrder", "NoRounds", "InvalidLot", "Unorderly", "UnknownName", "NothingToUndo", "InvalidProbe", "InvalidTops", "InvalidName", "InvalidMark", "InvalidClass"]
def isNon : PyData → Bool
  | .none => true
  | _ => false
def excSub (c d : Nat) : Bool := c == d || d == 0
/-- a call's argument, its result -/
inductive AV where
  | d (x : PyData)
  | o (c : Con)
  | x (c : Nat) (v : PyData)
inductive CO where
  | stuck
  | ret (r : AV) (fin : List Vr)
  | exc (c : Nat) (x : PyData) (fin : List Vr)
abbrev Calls := Nat → List AV → CO

def get (ρ : Rho) (i : Nat) : Vr := (ρ[i]?).getD .no
/-- read as data, now -/
def rd (ρ : Rho) : EV → Option PyData
  | .d x => some x
  | .o (.lst xs) => some (.list xs)
  | .o (.dct _) => none
  | .x _ _ => none
  | .b i => match get ρ i with
    | .d x => some x
    | .o _ _ (.lst xs) => some (.list xs)
    | _ => none
/-- read as a dict, now -/
def rdk (ρ : Rho) : EV → Option (List (PyData × PyData))
  | .o (.dct kvs) => some kvs
  | .b i => match get ρ i with
    | .o _ _ (.dct kvs) => some kvs
    | _ => none
  | _ => none
/-- from here on data, for good -/
def fz (ρ : Rho) : EV → Out PyData
  | .d x => .ok x ρ
  | .o (.lst xs) => .ok (.list xs) ρ
  | .o (.dct []) => .ok (.dict []) ρ
  | .o (.dct _) => .stuck
  | .x _ _ => .stuck
  | .b i => match get ρ i with
    | .d x => .ok x ρ
    | .o false false (.lst xs) => .ok (.list xs) (ρ.set i (.d (.list xs)))
    | _ => .stuck
/-- kept while something else is evaluated -/
def hold : EV → Option EV
  | .o (.lst xs) => some (.d (.list xs))
  | v => some v

def small (i : Int) : Bool := decide (-(2 ^ 62) ≤ i) && decide (i < 2 ^ 62)
def part {α : Type} (xs : List α) (lo hi : Option Int) : List α := (xs.drop (HT.sIx xs.length 0 lo)).take (HT.sIx xs.length xs.length hi - HT.sIx xs.length 0 lo)

def mulOk (i j : Int) : Bool := decide (-(2 ^ 64) < i ∧ i < 2 ^ 64) || decide (-(2 ^ 64) < j ∧ j < 2 ^ 64) || decide (Builtin.Int.intBits i + Builtin.Int.intBits j ≤ 134217728)
def powOk (i j : Int) : Bool := decide (0 ≤ j) && decide ((Builtin.Int.intBits i : Int) * j ≤ 2 ^ 27)
def shlOk (i j : Int) : Bool := decide (0 ≤ j) && decide ((Builtin.Int.intBits i : Int) + j ≤ 2 ^ 27)
def binD (op : Operator) (a b : PyData) : Option EV :=
  match op, a, b with
  | .Add, .int i, .int j => some (.d (.int (i + j)))
  | .Sub, .int i, .int j => some (.d (.int (i - j)))
  | .Mult, .int i, .int j => if mulOk i j then some (.d (.int (i * j))) else none
  | .FloorDiv, .int i, .int j => if 0 < j ∧ j.natAbs.log2 < 9000 then some (.d (.int (i / j))) else none
  | .Mod, .int i, .int j => if 0 < j then some (.d (.int (i % j))) else none
  | .Pow, .int i, .int j => if powOk i j then some (.d (.int (i ^ j.toNat))) else none
  | .LShift, .int i, .int j => if shlOk i j then some (.d (.int (i * 2 ^ j.toNat))) else none
  | .RShift, .int i, .int j => if 0 ≤ j then some (.d (.int (i / 2 ^ j.toNat))) else none
  | .BitAnd, .int i, .int j => some (.d (.int (Builtin.bitAnd i j)))
  | .BitOr, .int i, .int j => some (.d (.int (Builtin.bitOr i j)))
  | .BitXor, .int i, .int j => some (.d (.int (Builtin.bitXor i j)))
  | .Add, .str x, .str y => if x.length + y.length ≤ sizeLine then some (.d (.str (x ++ y))) else none
  | .Add, .tuple xs, .tuple ys => if xs.length + ys.length ≤ sizeLine then some (.d (.tuple (xs ++ ys))) else none
  | .Add, .list xs, .list ys => if xs.length + ys.length ≤ sizeLine then some (.o (.lst (xs ++ ys))) else none
  | .Mult, .tuple xs, .int k => if xs.isEmpty = false ∧ 2 ≤ k ∧ k ≤ 1000 ∧ xs.length ≤ 1000 then some (.d (.tuple (List.replicate k.toNat xs).flatten)) else none
  | .Mult, .list xs, .int k => if -(2 ^ 62) ≤ k ∧ k < 2 ^ 62 ∧ xs.length * k.toNat ≤ sizeLine then some (.o (.lst (List.replicate k.toNat xs).flatten)) else none
  | _, _, _ => none
/-- two tuples that are compared; two of which the greater, the less is taken -/
def ltOk (a b : PyData) : Bool := PySem.W.alike a b && decide (a.depth ≤ 60)
def mxOk (a b : PyData) : Bool := PySem.W.alike a a && PySem.W.alike a b && PySem.W.alike b a && PySem.W.alike b b && decide (PyData.depthAll [a, b] ≤ 60)
def cmpD (op : CmpOp) (a b : PyData) : Option Bool :=
  match op with
  | .Eq => match a, b with
    | .str x, .str y => some (x == y)
    | a, b => if SeqAt.shaped a && SeqAt.shaped b then some (PyData.eqv a b) else none
  | .NotEq => match a, b with
    | .str x, .str y => some (!(x == y))
    | a, b => if SeqAt.shaped a && SeqAt.shaped b then some (!PyData.eqv a b) else none
  | .Lt => match a, b with | .int i, .int j => some (decide (i < j)) | .tuple xs, .tuple ys => if ltOk (.tuple xs) (.tuple ys) then some (PySem.W.dataLt (.tuple xs) (.tuple ys)) else none | _, _ => none
  | .LtE => match a, b with | .int i, .int j => some (decide (i ≤ j)) | .tuple xs, .tuple ys => if ltOk (.tuple xs) (.tuple ys) then some (!PySem.W.dataLt (.tuple ys) (.tuple xs)) else none | _, _ => none
  | .Gt => match a, b with | .int i, .int j => some (decide (j < i)) | .tuple xs, .tuple ys => if ltOk (.tuple xs) (.tuple ys) then some (PySem.W.dataLt (.tuple ys) (.tuple xs)) else none | _, _ => none
  | .GtE => match a, b with | .int i, .int j => some (decide (j ≤ i)) | .tuple xs, .tuple ys => if ltOk (.tuple xs) (.tuple ys) then some (!PySem.W.dataLt (.tuple xs) (.tuple ys)) else none | _, _ => none
  | .In => match b with
    | .list xs => if SeqAt.shaped a && SeqAt.shaped (.list xs) then some (xs.any fun x => PyData.eqv x a) else none
    | .tuple xs => if SeqAt.shaped a && SeqAt.shaped (.tuple xs) then some (xs.any fun x => PyData.eqv x a) else none
    | _ => none
  | .NotIn => match b with
    | .list xs => if SeqAt.shaped a && SeqAt.shaped (.list xs) then some (!xs.any fun x => PyData.eqv x a) else none
    | .tuple xs => if SeqAt.shaped a && SeqAt.shaped (.tuple xs) then some (!xs.any fun x => PyData.eqv x a) else none
    | _ => none
  | .Is => match a, b with | .bool x, .bool y => some (decide (x = y)) | .none, .none => some true | .none, _ => none | _, .none => some false | _, _ => none
  | .IsNot => match a, b with | .bool x, .bool y => some (!decide (x = y)) | .none, .none => some false | .none, _ => none | _, .none => some true | _, _ => none
def idxD (a b : PyData) : Option PyData :=
  match a, b with
  | .list xs, .int i => L2.atI xs i
  | .tuple xs, .int i => L2.atI xs i
  | _, _ => none
/-- a part of a row; lo, hi: ints of a size that a place may have -/
def slcD (a : PyData) (lo hi : Option Int) : Option EV :=
  if (lo.all small && hi.all small) = true then match a with
    | .tuple xs => some (.d (.tuple (part xs lo hi)))
    | .list xs => some (.o (.lst (part xs lo hi)))
    | _ => none
  else none

/-- built-in types that isinstance is asked of -/
inductive Ty where
  | int | bool | str | tuple | list | dict
  deriving DecidableEq
def Ty.name : Ty → String
  | .int => "int" | .bool => "bool" | .str => "str" | .tuple => "tuple" | .list => "list" | .dict => "dict"
/-- the built-in functions that are called -/
inductive Blt where
  | len | abs | int | max2 | min2 | all | any | sum | tuple | list | repr | sorted
  deriving DecidableEq
def boolsOf : List PyData → Option (List Bool)
  | [] => some []
  | .bool b :: r => (boolsOf r).map (b :: ·)
  | _ => none
def intsOf : List PyData → Option (List Int)
  | [] => some []
  | .int b :: r => (intsOf r).map (b :: ·)
  | _ => none
def isA : Ty → PyData → Bool
  | .bool, .bool _ => true
  | .int, .bool _ => true
  | .int, .int _ => true
  | .str, .str _ => true
  | .list, .list _ => true
  | .tuple, .tuple _ => true
  | .dict, .dict _ => true
  | _, _ => false
/-- rows that can be sorted -/
def canSort (xs : List PyData) : Bool := (xs.all fun d => xs.all fun e => PySem.W.alike d e) && decide (xs.length ≤ sizeLine) && (xs.all fun d => decide (d.depth ≤ 64)) &&
  ((xs.all fun d => match d with | .tuple _ => true | _ => false) || (xs.all fun d => match d with | .none => false | .tuple _ => false | _ => true))
def lenD : List PyData → Option EV
  | [.list xs] => if xs.length ≤ sizeLine then some (.d (.int xs.length)) else none
  | [.tuple xs] => if xs.length ≤ sizeLine then some (.d (.int xs.length)) else none
  | [.str x] => if x.length ≤ sizeLine then some (.d (.int x.length)) else none
  | _ => none
def absD : List PyData → Option EV
  | [.int i] => some (.d (.int (if i < 0 then -i else i)))
  | _ => none
def intD : List PyData → Option EV
  | [.int i] => some (.d (.int i))
  | [.bool b] => some (.d (.int (if b then 1 else 0)))
  | _ => none
def maxD : List PyData → Option EV
  | [.int i, .int j] => some (.d (.int (if j > i then j else i)))
  | [.tuple xs, .tuple ys] => if mxOk (.tuple xs) (.tuple ys) then some (.d (if PySem.W.dataLt (.tuple xs) (.tuple ys) then .tuple ys else .tuple xs)) else none
  | _ => none
def minD : List PyData → Option EV
  | [.int i, .int j] => some (.d (.int (if j < i then j else i)))
  | [.tuple xs, .tuple ys] => if mxOk (.tuple xs) (.tuple ys) then some (.d (if PySem.W.dataLt (.tuple ys) (.tuple xs) then .tuple ys else .tuple xs)) else none
  | _ => none
def allD : List PyData → Option EV
  | [.list xs] => (boolsOf xs).map fun bs => .d (.bool (bs.all id))
  | _ => none
def anyD : List PyData → Option EV
  | [.list xs] => (boolsOf xs).map fun bs => .d (.bool (bs.any id))
  | _ => none
def sumD : List PyData → Option EV
  | [.list xs] => (intsOf xs).map fun bs => .d (.int bs.sum)
  | _ => none
def tupleD : List PyData → Option EV
  | [.list xs] => some (.d (.tuple xs))
  | [.tuple xs] => some (.d (.tuple xs))
  | _ => none
def listD : List PyData → Option EV
  | [.list xs] => some (.o (.lst xs))
  | [.tuple xs] => some (.o (.lst xs))
  | _ => none
def reprD : List PyData → Option EV
  | [x] => if x.showable && decide (x.depth ≤ 64) && decide (x.shown.length ≤ sizeLine) then some (.d (.str x.shown)) else none
  | _ => none
def sortedD : List PyData → Option EV
  | [.list xs] => if canSort xs then some (.o (.lst (xs.mergeSort (PySem.W.dataLe false id)))) else none
  | _ => none
/-- an item of a list, a tuple, a dict -/
def idxO (ρ : Rho) (u v : EV) : Out EV := match rdk ρ u with
  | some kvs => match rd ρ v with
    | some k => if keyFits kvs k then Out.of ρ ((dGet kvs k).map .d) else .stuck
    | none => .stuck
  | none => match rd ρ u, rd ρ v with
    | some x, some y => Out.of ρ ((idxD x y).map .d)
    | _, _ => .stuck
def inK (op : CmpOp) (kvs : List (PyData × PyData)) (k : PyData) : Option Bool := match op with
  | .In => if keyFits kvs k then some (dHas kvs k) else none
  | .NotIn => if keyFits kvs k then some (!dHas kvs k) else none
  | _ => none
def cmpO (op : CmpOp) (ρ : Rho) (u v : EV) : Out EV := match rdk ρ v with
  | some kvs => match rd ρ u with
    | some k => Out.of ρ ((inK op kvs k).map fun b => .d (.bool b))
    | none => .stuck
  | none => match rd ρ u, rd ρ v with
    | some x, some y => Out.of ρ ((cmpD op x y).map fun b => .d (.bool b))
    | _, _ => .stuck
/-- functions of a dict -/
def bltK (f : Blt) (kvs : List (PyData × PyData)) : Option EV := match f with
  | .len => some (.d (.int kvs.length))
  | .list => if kvs.length ≤ sizeLine then some (.o (.lst (kvs.map (·.1)))) else none
  | .sorted => sortedD [.list (kvs.map (·.1))]
  | _ => none
/-- methods that read -/
inductive Mth where
  | lcount
  | lindex
deriving DecidableEq
def Mth.py : Mth → Str
  | .lcount => "count"
  | .lindex => "index"
def Mth.recv (m : Mth) (x : Option PyData) : Bool := match m, x with
  | .lcount, some (.list _) => true
  | .lindex, some (.list _) => true
  | _, _ => false
def mthD (m : Mth) (x : PyData) (ds : List PyData) : Option EV := match m, x, ds with
  | .lcount, .list xs, [y] => if PyData.plainAll xs && y.plain && decide (y.depth ≤ 60) && decide (xs.length ≤ sizeLine) then some (.d (.int (xs.countP fun z => PyData.eqv z y : Nat))) else none
  | _, _, _ => none
def bltD (f : Blt) (ds : List PyData) : Option EV :=
  match f with
  | .len => lenD ds | .abs => absD ds | .int => intD ds | .max2 => maxD ds | .min2 => minD ds | .all => allD ds | .any => anyD ds | .sum => sumD ds
  | .tuple => tupleD ds | .list => listD ds | .repr => reprD ds | .sorted => sortedD ds

/-- targets of a for, of an assignment -/
inductive Tg where
  | nm (i : Nat)
  | tp (is : List Nat)
def free (ρ : Rho) (i : Nat) : Bool := match get ρ i with
  | .o _ _ _ => false
  | _ => true
/-- slot i may be stored into: no container of the caller's, none that is walked -/
def open' (ρ : Rho) (i : Nat) : Bool := decide (i < ρ.length) && match get ρ i with
  | .o true _ _ => false
  | .o _ true _ => false
  | _ => true
def put (ρ : Rho) (i : Nat) (x : Vr) : Option Rho := if open' ρ i then some (ρ.set i x) else none
def puts : List Nat → List PyData → Rho → Option Rho
  | [], [], ρ => some ρ
  | i :: is, x :: xs, ρ => (put ρ i (.d x)).bind (puts is xs)
  | _, _, _ => none
def Tg.to : Tg → PyData → Rho → Option Rho
  | .nm i, x, ρ => put ρ i (.d x)
  | .tp is, .tuple xs, ρ => puts is xs ρ
  | .tp is, .list xs, ρ => puts is xs ρ
  | .tp _, _, _ => none

mutual
inductive Ex where
  | lit (x : PyData)
  | var (i : Nat)
  | glob (j : Nat)
  | gidx (j : Nat) (e : Ex)
  | gin (neg : Bool) (j : Nat) (e : Ex)
  | bin (op : Operator) (a b : Ex)
  | neg (a : Ex)
  | cmp (op : CmpOp) (a b : Ex)
  | chain (o1 o2 : CmpOp) (a b c : Ex)
  | band (a : Ex) (r : Exs)
  | bor (a : Ex) (r : Exs)
  | lnot (a : Ex)
  | ite (c a b : Ex)
  | tup (es : Exs)
  | lst (es : Exs)
  | idx (a b : Ex)
  | slc (a : Ex) (lo hi : Exs)
  | call (f : Nat) (as : As)
  | callT (f : Nat) (e : Ex) (as : As)
  | callK (f : Nat) (as : As)
  | callM (f p : Nat) (π : List Nat) (as ks : As)
  | bits (e : Ex)
  | rev (e : Ex)
  | dnew
  | trg (a b : Ex)
  | lc2 (own : List Nat) (tg : Tg) (s : Src) (cs : Exs) (own1 : List Nat) (tg1 : Tg) (s1 : Src) (cs1 : Exs) (e : Ex)
  | dc (own : List Nat) (tg : Tg) (s : Src) (cs : Exs) (k e : Ex)
  | dck (own : List Nat) (tg : Tg) (i : Nat) (cs : Exs) (k e : Ex)
  | mth (m : Mth) (e : Ex) (as : Exs)
  | blt (f : Blt) (as : Exs)
  | isi (T : Ty) (e : Ex)
  | isx (c : Option Nat) (e : Ex)
  | xval (e : Ex)
  | isN (neg : Bool) (e : Ex)
  | pop (i : Nat)
  | app (i : Nat) (e : Ex)
  | ext (i : Nat) (e : Ex)
  | lc (own : List Nat) (tg : Tg) (s : Src) (cs : Exs) (e : Ex)
inductive Exs where
  | nil
  | cons (e : Ex) (r : Exs)
inductive As where
  | nil
  | val (e : Ex) (r : As)
  | io (i : Nat) (r : As)
inductive Src where
  | ev (e : Ex)
  | rng1 (a : Ex)
  | rng2 (a b : Ex)
  | enum (e : Ex)
  | zip (a b : Ex)
end

def asB (o : Out EV) : Out Bool := o.bind fun v ρ => match v with
  | .d (.bool b) => .ok b ρ
  | _ => .stuck
/-- the items of a row, and the slot whose list is walked -/
def items (ρ : Rho) (v : EV) : Option (List PyData × Option Nat) :=
  match v with
  | .b i => match get ρ i with
    | .o _ l (.lst xs) => some (xs, if l then none else some i)
    | _ => none
  | .d (.list xs) => some (xs, none)
  | .d (.tuple xs) => some (xs, none)
  | .o (.lst xs) => some (xs, none)
  | _ => none
def lockV (b : Bool) : Vr → Vr
  | .o p _ c => .o p b c
  | v => v
def lock (ρ : Rho) : Option Nat → Rho
  | none => ρ
  | some i => ρ.set i (lockV true (get ρ i))
def unlock (ρ : Rho) : Option Nat → Rho
  | none => ρ
  | some i => ρ.set i (lockV false (get ρ i))
def up (lo : Int) (n : Nat) : List PyData := (List.range n).map fun (k : Nat) => .int (lo + (k : Int))
def numbered (xs : List PyData) : List PyData := (List.range xs.length).zip xs |>.map fun p => .tuple [.int p.1, p.2]
def paired (xs ys : List PyData) : List PyData := (xs.zip ys).map fun p => .tuple [p.1, p.2]
def wipeR (ρ : Rho) : List Nat → Rho
  | [] => ρ
  | i :: is => (wipeR ρ is).set i .no
def restore (ρ0 ρ : Rho) : List Nat → Rho
  | [] => ρ
  | i :: is => (restore ρ0 ρ is).set i (get ρ0 i)
/-- the turns of a comprehension -/
def lcL (own : List Nat) (g : PyData → Rho → Option Rho) (cs : Rho → Out Bool) (e : Rho → Out PyData) : List PyData → List PyData → Rho → Out (List PyData)
  | [], acc, ρ => .ok acc ρ
  | x :: r, acc, ρ => match g x ρ with
    | none => .stuck
    | some ρ1 => (cs ρ1).bind fun b ρ2 => if b then (e ρ2).bind fun y ρ3 => if acc.length < sizeLine then lcL own g cs e r (acc ++ [y]) (wipeR ρ3 own) else .stuck
      else lcL own g cs e r acc (wipeR ρ2 own)
/-- two loops in one another -/
def lc2L (own : List Nat) (g : PyData → Rho → Option Rho) (cs : Rho → Out Bool) (own1 : List Nat) (src : Rho → Out (List PyData × Option Nat)) (g1 : PyData → Rho → Option Rho) (cs1 : Rho → Out Bool) (e : Rho → Out PyData) : List PyData → List PyData → Rho → Out (List PyData)
  | [], acc, ρ => .ok acc ρ
  | x :: r, acc, ρ => match g x ρ with
    | none => .stuck
    | some ρ1 => (cs ρ1).bind fun b ρ2 => if b then (src ρ2).bind fun il ρ3 => match il.2 with
        | some _ => .stuck
        | none => (lcL own1 g1 cs1 e il.1 acc (wipeR ρ3 own1)).bind fun acc' ρ4 => lc2L own g cs own1 src g1 cs1 e r acc' (wipeR ρ4 own)
      else lc2L own g cs own1 src g1 cs1 e r acc (wipeR ρ2 own)
/-- a dict gathered -/
def dcL (own : List Nat) (g : PyData → Rho → Option Rho) (cs : Rho → Out Bool) (e f : Rho → Out PyData) : List PyData → List (PyData × PyData) → Rho → Out (List (PyData × PyData))
  | [], acc, ρ => .ok acc ρ
  | x :: r, acc, ρ => match g x ρ with
    | none => .stuck
    | some ρ1 => (cs ρ1).bind fun b ρ2 => if b then (e ρ2).bind fun k ρ3 => (f ρ3).bind fun y ρ4 => if keyFits acc k ∧ acc.length < sizeLine then dcL own g cs e f r (dPut acc k y) (wipeR ρ4 own) else .stuck
      else dcL own g cs e f r acc (wipeR ρ2 own)
/-- an exception never leaves a comprehension here -/
def noExc {α : Type} : Out α → Out α
  | .exc _ _ _ => .stuck
  | o => o

/-- the arguments as they are handed in -/
inductive Ag where
  | d (x : PyData)
  | io (i : Nat)
def Ag.slots : List Ag → List Nat
  | [] => []
  | .io i :: r => i :: Ag.slots r
  | .d _ :: r => Ag.slots r
def Ag.avs (ρ : Rho) : List Ag → Option (List AV)
  | [] => some []
  | .d x :: r => (Ag.avs ρ r).map (.d x :: ·)
  | .io i :: r => match get ρ i with
    | .o _ false c => (Ag.avs ρ r).map (.o c :: ·)
    | .d x => (Ag.avs ρ r).map (.d x :: ·)
    | .x c v => (Ag.avs ρ r).map (.x c v :: ·)
    | _ => none
/-- what the callee left in the containers -/
def Ag.back : List Ag → List Vr → Rho → Option Rho
  | [], _, ρ => some ρ
  | .d _ :: r, _ :: vs, ρ => Ag.back r vs ρ
  | .io i :: r, v :: vs, ρ => match get ρ i, v with
    | .o p l _, .o _ _ c => Ag.back r vs (ρ.set i (.o p l c))
    | .d _, _ => Ag.back r vs ρ
    | .x _ _, _ => Ag.back r vs ρ
    | _, _ => none
  | _ :: _, [], _ => none
/-- in the order of the parameters: the item written at j is for the parameter π[j] -/
def reord {α : Type} (π : List Nat) (l : List α) : List α := (List.range π.length).filterMap fun i => l[π.idxOf i]?
def callO (C : Calls) (f : Nat) (ags : List Ag) (ρ : Rho) : Out EV :=
  if (Ag.slots ags).Nodup then
    match Ag.avs ρ ags with
    | none => .stuck
    | some avs => match C f avs with
      | .stuck => .stuck
      | .ret r fin => match Ag.back ags fin ρ with
        | none => .stuck
        | some ρ' => .ok (match r with | .d x => .d x | .o c => .o c | .x c v => .x c v) ρ'
      | .exc c x fin => match Ag.back ags fin ρ with
        | none => .stuck
        | some ρ' => .exc c x ρ'
  else .stuck

/-- the module's constants: data, dicts with text keys -/
structure Consts where
  dat : List PyData
  dic : List (List (Str × PyData))

section
variable (U : Consts) (C : Calls)
mutual
def evE : Ex → Rho → Out EV
  | .lit x, ρ => .ok (.d x) ρ
  | .var i, ρ => match get ρ i with
    | .d x => .ok (.d x) ρ
    | .o _ _ _ => .ok (.b i) ρ
    | .x c v => .ok (.x c v) ρ
    | .no => .stuck
  | .glob j, ρ => Out.of ρ ((U.dat[j]?).map .d)
  | .gidx j e, ρ => (evE e ρ).bind fun v ρ1 => match rd ρ1 v, U.dic[j]? with
    | some (.str x), some kvs => Out.of ρ1 ((kvs.lookup x).map .d)
    | _, _ => .stuck
  | .gin neg j e, ρ => (evE e ρ).bind fun v ρ1 => match rd ρ1 v, U.dic[j]? with
    | some (.str x), some kvs => .ok (.d (.bool (xor neg (kvs.lookup x).isSome))) ρ1
    | _, _ => .stuck
  | .bin op a b, ρ => (evE a ρ).bind fun u ρ1 => match hold u with
    | none => .stuck
    | some u => (evE b ρ1).bind fun v ρ2 => match rd ρ2 u, rd ρ2 v with
      | some x, some y => Out.of ρ2 (binD op x y)
      | _, _ => .stuck
  | .neg a, ρ => (evE a ρ).bind fun u ρ1 => match u with
    | .d (.int i) => .ok (.d (.int (-i))) ρ1
    | _ => .stuck
  | .cmp op a b, ρ => (evE a ρ).bind fun u ρ1 => match hold u with
    | none => .stuck
    | some u => (evE b ρ1).bind fun v ρ2 => cmpO op ρ2 u v
  | .chain o1 o2 a b c, ρ => (evE a ρ).bind fun u ρ1 => match hold u with
    | none => .stuck
    | some u => (evE b ρ1).bind fun v ρ2 => match hold v with
      | none => .stuck
      | some v => match rd ρ2 u, rd ρ2 v with
        | some x, some y => match cmpD o1 x y with
          | none => .stuck
          | some false => .ok (.d (.bool false)) ρ2
          | some true => (evE c ρ2).bind fun w ρ3 => match rd ρ3 v, rd ρ3 w with
            | some y, some z => Out.of ρ3 ((cmpD o2 y z).map fun b => .d (.bool b))
            | _, _ => .stuck
        | _, _ => .stuck
  | .band a r, ρ => (asB (evE a ρ)).bind fun b ρ1 => if b then evAnd r ρ1 else .ok (.d (.bool false)) ρ1
  | .bor a r, ρ => (asB (evE a ρ)).bind fun b ρ1 => if b then .ok (.d (.bool true)) ρ1 else evOr r ρ1
  | .lnot a, ρ => (asB (evE a ρ)).bind fun b ρ1 => .ok (.d (.bool (!b))) ρ1
  | .ite c a b, ρ => (asB (evE c ρ)).bind fun t ρ1 => if t then evE a ρ1 else evE b ρ1
  | .tup es, ρ => (evals es ρ).bind fun xs ρ1 => if xs.length ≤ sizeLine then .ok (.d (.tuple xs)) ρ1 else .stuck
  | .lst es, ρ => (evals es ρ).bind fun xs ρ1 => if xs.length ≤ sizeLine then .ok (.o (.lst xs)) ρ1 else .stuck
  | .idx a b, ρ => (evE a ρ).bind fun u ρ1 => match hold u with
    | none => .stuck
    | some u => (evE b ρ1).bind fun v ρ2 => idxO ρ2 u v
  | .slc a lo hi, ρ => (evE a ρ).bind fun u ρ1 => match hold u with
    | none => .stuck
    | some u => (evPart lo ρ1).bind fun l ρ2 => (evPart hi ρ2).bind fun h ρ3 => match rd ρ3 u with
      | some x => Out.of ρ3 (slcD x l h)
      | none => .stuck
  | .call f as, ρ => (evAs as ρ).bind fun ags ρ1 => callO C f ags ρ1
  | .callT f e as, ρ => (evE e ρ).bind fun u ρ1 => match u with
    | .o (.lst xs) => (evAs as ρ1).bind fun ags ρ2 => (noExc (callO C f (.io ρ2.length :: ags) (ρ2 ++ [.o false false (.lst xs)]))).bind fun v ρ3 => match v with
      | .b _ => .stuck
      | v => .ok v (ρ3.take ρ2.length)
    | _ => .stuck
  | .callK f as, ρ => (evAs as ρ).bind fun ags ρ1 => callO C f ags ρ1
  | .callM f p π as ks, ρ => (evAs as ρ).bind fun a ρ1 => (evAs ks ρ1).bind fun b ρ2 => if a.length = p ∧ a.length + b.length = π.length then callO C f (reord π (a ++ b)) ρ2 else .stuck
  | .bits e, ρ => (evE e ρ).bind fun v ρ1 => match rd ρ1 v with
    | some (.int i) => .ok (.d (.int (Builtin.Int.intBits i : Nat))) ρ1
    | _ => .stuck
  | .dnew, ρ => .ok (.o (.dct [])) ρ
  | .trg a b, ρ => (evE a ρ).bind fun u ρ1 => match u with
    | .d (.int i) => (evE b ρ1).bind fun v ρ2 => match v with
      | .d (.int j) => if (small i && small j) && decide ((j - i).toNat ≤ sizeLine) then .ok (.d (.tuple (up i (j - i).toNat))) ρ2 else .stuck
      | _ => .stuck
    | _ => .stuck
  | .lc2 own tg s cs own1 tg1 s1 cs1 e, ρ => (evSrc s ρ).bind fun il ρ1 => if own.all (fun i => free ρ1 i) then
      (noExc (lc2L own tg.to (evConds cs) own1 (evSrc s1) tg1.to (evConds cs1) (fun ρ => (evE e ρ).bind fun v ρ' => fz ρ' v) il.1 [] (wipeR (lock ρ1 il.2) own))).bind fun ys ρ2 => .ok (.o (.lst ys)) (unlock (restore ρ1 ρ2 own) il.2)
    else .stuck
  | .dc own tg s cs k e, ρ => (evSrc s ρ).bind fun il ρ1 => if own.all (fun i => free ρ1 i) then
      (noExc (dcL own tg.to (evConds cs) (fun ρ => (evE k ρ).bind fun v ρ' => fz ρ' v) (fun ρ => (evE e ρ).bind fun v ρ' => fz ρ' v) il.1 [] (wipeR (lock ρ1 il.2) own))).bind fun kvs ρ2 => .ok (.o (.dct kvs)) (unlock (restore ρ1 ρ2 own) il.2)
    else .stuck
  | .dck own tg i cs k e, ρ => match get ρ i with
    | .o p false (.dct kvs) => if own.all (fun j => free (ρ.set i .no) j) && kvs.all (fun q => atomB q.1) then
        (noExc (dcL own tg.to (evConds cs) (fun ρ => (evE k ρ).bind fun v ρ' => fz ρ' v) (fun ρ => (evE e ρ).bind fun v ρ' => fz ρ' v) (kvs.map (·.1)) [] (wipeR (ρ.set i .no) own))).bind fun ys ρ2 => .ok (.o (.dct ys)) ((restore (ρ.set i .no) ρ2 own).set i (.o p false (.dct kvs)))
      else .stuck
    | _ => .stuck
  | .mth m a es, ρ => (evE a ρ).bind fun u ρ1 => match hold u with
    | none => .stuck
    | some u => if m.recv (rd ρ1 u) then (evReads es ρ1).bind fun vs ρ2 => match rd ρ2 u, vs.mapM (rd ρ2) with
      | some x, some ds => Out.of ρ2 (mthD m x ds)
      | _, _ => .stuck
      else .stuck
  | .rev e, ρ => (evE e ρ).bind fun v ρ1 => match rd ρ1 v with
    | some (.tuple xs) => .ok (.d (.tuple xs.reverse)) ρ1
    | some (.list xs) => .ok (.o (.lst xs.reverse)) ρ1
    | _ => .stuck
  | .blt f as, ρ => (evReads as ρ).bind fun vs ρ1 => match vs.mapM (rd ρ1) with
    | some ds => Out.of ρ1 (bltD f ds)
    | none => match vs.mapM (rdk ρ1) with
      | some [kvs] => Out.of ρ1 (bltK f kvs)
      | _ => .stuck
  | .isi T e, ρ => (evE e ρ).bind fun v ρ1 => match rd ρ1 v with
    | some d => .ok (.d (.bool (isA T d))) ρ1
    | none => .stuck
  | .isx c e, ρ => (evE e ρ).bind fun v ρ1 => match v with
    | .x c' _ => .ok (.d (.bool (match c with | some c => excSub c' c | none => true))) ρ1
    | .d _ => .ok (.d (.bool false)) ρ1
    | _ => .stuck
  | .xval e, ρ => (evE e ρ).bind fun v ρ1 => match v with
    | .x _ x => .ok (.d x) ρ1
    | _ => .stuck
  | .isN neg e, ρ => (evE e ρ).bind fun v ρ1 => match v with
    | .x _ _ => .ok (.d (.bool neg)) ρ1
    | .d x => .ok (.d (.bool (if isNon x then !neg else neg))) ρ1
    | .b i => (match get ρ1 i with
      | .o _ _ _ => .ok (.d (.bool neg)) ρ1
      | .d x => .ok (.d (.bool (if isNon x then !neg else neg))) ρ1
      | _ => .stuck)
    | .o _ => .ok (.d (.bool neg)) ρ1
  | .pop i, ρ => match get ρ i with
    | .o p false (.lst xs) => match xs.getLast? with
      | some x => .ok (.d x) (ρ.set i (.o p false (.lst xs.dropLast)))
      | none => .stuck
    | _ => .stuck
  | .app i e, ρ => match get ρ i with
    | .o _ _ (.lst _) => (evE e ρ).bind fun v ρ1 => (fz ρ1 v).bind fun y ρ2 => match get ρ2 i with
      | .o p false (.lst xs) => if xs.length < sizeLine then .ok (.d .none) (ρ2.set i (.o p false (.lst (xs ++ [y])))) else .stuck
      | _ => .stuck
    | _ => .stuck
  | .ext i e, ρ => match get ρ i with
    | .o _ _ (.lst _) => (evE e ρ).bind fun v ρ1 => match v, rd ρ1 v, get ρ1 i with
      | .b j, some (.list ys), .o p false (.lst xs) => if j ≠ i ∧ xs.length + ys.length ≤ sizeLine then .ok (.d .none) (ρ1.set i (.o p false (.lst (xs ++ ys)))) else .stuck
      | .o _, some (.list ys), .o p false (.lst xs) => if xs.length + ys.length ≤ sizeLine then .ok (.d .none) (ρ1.set i (.o p false (.lst (xs ++ ys)))) else .stuck
      | .d _, some (.list ys), .o p false (.lst xs) => if xs.length + ys.length ≤ sizeLine then .ok (.d .none) (ρ1.set i (.o p false (.lst (xs ++ ys)))) else .stuck
      | .d _, some (.tuple ys), .o p false (.lst xs) => if xs.length + ys.length ≤ sizeLine then .ok (.d .none) (ρ1.set i (.o p false (.lst (xs ++ ys)))) else .stuck
      | _, _, _ => .stuck
    | _ => .stuck
  | .lc own tg s cs e, ρ => (evSrc s ρ).bind fun il ρ1 => if own.all (fun i => free ρ1 i) then
      (noExc (lcL own tg.to (evConds cs) (fun ρ => (evE e ρ).bind fun v ρ' => fz ρ' v) il.1 [] (wipeR (lock ρ1 il.2) own))).bind fun ys ρ2 => .ok (.o (.lst ys)) (unlock (restore ρ1 ρ2 own) il.2)
      else .stuck
def evAnd : Exs → Rho → Out EV
  | .nil, ρ => .ok (.d (.bool true)) ρ
  | .cons a .nil, ρ => evE a ρ
  | .cons a (.cons b r), ρ => (asB (evE a ρ)).bind fun t ρ1 => if t then evAnd (.cons b r) ρ1 else .ok (.d (.bool false)) ρ1
def evOr : Exs → Rho → Out EV
  | .nil, ρ => .ok (.d (.bool false)) ρ
  | .cons a .nil, ρ => evE a ρ
  | .cons a (.cons b r), ρ => (asB (evE a ρ)).bind fun t ρ1 => if t then .ok (.d (.bool true)) ρ1 else evOr (.cons b r) ρ1
/-- the tests of a comprehension -/
def evConds : Exs → Rho → Out Bool
  | .nil, ρ => .ok true ρ
  | .cons a _, ρ => asB (evE a ρ)
/-- items of a display, frozen one by one -/
def evals : Exs → Rho → Out (List PyData)
  | .nil, ρ => .ok [] ρ
  | .cons e r, ρ => (evE e ρ).bind fun v ρ1 => (fz ρ1 v).bind fun x ρ2 => (evals r ρ2).bind fun xs ρ3 => .ok (x :: xs) ρ3
/-- arguments of a built-in: read when all are there -/
def evReads : Exs → Rho → Out (List EV)
  | .nil, ρ => .ok [] ρ
  | .cons e r, ρ => (evE e ρ).bind fun v ρ1 => match hold v with
    | none => .stuck
    | some v => (evReads r ρ1).bind fun vs ρ2 => .ok (v :: vs) ρ2
def evPart : Exs → Rho → Out (Option Int)
  | .nil, ρ => .ok none ρ
  | .cons e _, ρ => (evE e ρ).bind fun v ρ1 => match v with
    | .d (.int i) => .ok (some i) ρ1
    | _ => .stuck
def evAs : As → Rho → Out (List Ag)
  | .nil, ρ => .ok [] ρ
  | .val e r, ρ => (evE e ρ).bind fun v ρ1 => (fz ρ1 v).bind fun x ρ2 => (evAs r ρ2).bind fun xs ρ3 => .ok (.d x :: xs) ρ3
  | .io i r, ρ => match get ρ i with
    | .no => .stuck
    | _ => (evAs r ρ).bind fun xs ρ1 => .ok (.io i :: xs) ρ1
def evSrc : Src → Rho → Out (List PyData × Option Nat)
  | .ev e, ρ => (evE e ρ).bind fun v ρ1 => Out.of ρ1 (items ρ1 v)
  | .rng1 a, ρ => (evE a ρ).bind fun v ρ1 => match v with
    | .d (.int j) => if small j then .ok (up 0 j.toNat, none) ρ1 else .stuck
    | _ => .stuck
  | .rng2 a b, ρ => (evE a ρ).bind fun u ρ1 => match u with
    | .d (.int i) => (evE b ρ1).bind fun v ρ2 => match v with
      | .d (.int j) => if small i && small j then .ok (up i (j - i).toNat, none) ρ2 else .stuck
      | _ => .stuck
    | _ => .stuck
  | .enum e, ρ => (evE e ρ).bind fun v ρ1 => match v, items ρ1 v with
    | .d (.tuple _), _ => .stuck
    | _, some (xs, l) => .ok (numbered xs, l) ρ1
    | _, none => .stuck
  | .zip a b, ρ => (evE a ρ).bind fun u ρ1 => (fz ρ1 u).bind fun x ρ2 => (evE b ρ2).bind fun v ρ3 => (fz ρ3 v).bind fun y ρ4 => match x, y with
    | .list xs, .list ys => .ok (paired xs ys, none) ρ4
    | .tuple xs, .tuple ys => .ok (paired xs ys, none) ρ4
    | _, _ => .stuck
end
end

/-! ### statements -/
inductive Fl where
  | nx
  | ret (r : AV)
  | bk
  | ct
mutual
inductive St where
  | asg (i : Nat) (e : Ex)
  | asgT (is : List Nat) (e : Ex)
  | par2 (i j : Nat) (a b : Ex)
  | par (is : List Nat) (es : Exs)
  | setIx (i : Nat) (k e : Ex)
  | exs (e : Ex)
  | ret (e : Ex)
  | retN
  | ite (c : Ex) (a b : Sts)
  | whl (c : Ex) (b : Sts)
  | forr (tg : Tg) (s : Src) (b : Sts)
  | pass
  | brk
  | cnt
  | raise (c : Nat) (e : Ex)
  | tryC (b : Sts) (c i j : Nat)
inductive Sts where
  | nil
  | cons (s : St) (r : Sts)
end
/-- how many turns a while may take -/
def WF : Nat := 1000000
def whlL (c : Rho → Out Bool) (b : Rho → Out Fl) : Nat → Rho → Out Fl
  | 0, _ => .stuck
  | n + 1, ρ => (c ρ).bind fun t ρ1 => if t then (b ρ1).bind fun f ρ2 => match f with
      | .nx => whlL c b n ρ2
      | .ct => whlL c b n ρ2
      | .bk => .ok .nx ρ2
      | .ret r => .ok (.ret r) ρ2
    else .ok .nx ρ1
def forL (g : PyData → Rho → Option Rho) (b : Rho → Out Fl) : List PyData → Rho → Out Fl
  | [], ρ => .ok .nx ρ
  | x :: r, ρ => match g x ρ with
    | none => .stuck
    | some ρ1 => (b ρ1).bind fun f ρ2 => match f with
      | .nx => forL g b r ρ2
      | .ct => forL g b r ρ2
      | .bk => .ok .nx ρ2
      | .ret r => .ok (.ret r) ρ2
/-- a value leaves the frame -/
def leave (ρ : Rho) : EV → Out Fl
  | .d x => .ok (.ret (.d x)) ρ
  | .o c => .ok (.ret (.o c)) ρ
  | .x c v => .ok (.ret (.x c v)) ρ
  | .b i => match get ρ i with
    | .o false false c => .ok (.ret (.o c)) (ρ.set i .no)
    | _ => .stuck
def store (i : Nat) (ρ : Rho) : EV → Out Fl
  | .d x => (Out.of ρ (put ρ i (.d x))).bind fun ρ' _ => .ok .nx ρ'
  | .o c => (Out.of ρ (put ρ i (.o false false c))).bind fun ρ' _ => .ok .nx ρ'
  | .x c v => (Out.of ρ (put ρ i (.x c v))).bind fun ρ' _ => .ok .nx ρ'
  | .b j => (fz ρ (.b j)).bind fun x ρ1 => (Out.of ρ1 (put ρ1 i (.d x))).bind fun ρ' _ => .ok .nx ρ'
/-- a value kept while the next ones are evaluated -/
def keep (ρ : Rho) : EV → Out EV
  | .d x => .ok (.d x) ρ
  | .o c => .ok (.o c) ρ
  | .x c v => .ok (.x c v) ρ
  | .b i => (fz ρ (.b i)).bind fun x ρ' => .ok (.d x) ρ'
def toVr : EV → Vr
  | .d x => .d x
  | .o c => .o false false c
  | .x c v => .x c v
  | .b _ => .no
def putAll : List Nat → List EV → Rho → Option Rho
  | [], [], ρ => some ρ
  | i :: is, u :: us, ρ => (put ρ i (toVr u)).bind (putAll is us)
  | _, _, _ => none
def keeps (U : Consts) (C : Calls) : Exs → Rho → Out (List EV)
  | .nil, ρ => .ok [] ρ
  | .cons e r, ρ => (evE U C e ρ).bind fun u ρ1 => (keep ρ1 u).bind fun w ρ2 => (keeps U C r ρ2).bind fun ws ρ3 => .ok (w :: ws) ρ3
def setAt (i : Nat) (k y : PyData) (ρ : Rho) : Out Fl :=
  match get ρ i, k with
  | .o p false (.lst xs), .int j => match L2.ixN xs.length j with
    | some n => .ok .nx (ρ.set i (.o p false (.lst (xs.set n y))))
    | none => .stuck
  | .o p false (.dct kvs), k => if keyFits kvs k ∧ kvs.length < sizeLine then .ok .nx (ρ.set i (.o p false (.dct (dPut kvs k y)))) else .stuck
  | _, _ => .stuck
/-- a loop over what is walked: unlocked behind it, also behind a return, an exception -/
def walked (o : Out Fl) (l : Option Nat) : Out Fl := match o with
  | .ok f ρ => .ok f (unlock ρ l)
  | .exc c x ρ => .exc c x (unlock ρ l)
  | .stuck => .stuck
/-- behind a body: except C as the name i: j = the name -/
def caughtO (c i j : Nat) (o : Out Fl) : Out Fl := match o with
  | .exc c' x ρ => if excSub c' c then match (put ρ i .no).bind fun ρ1 => put ρ1 j (.x c' x) with
      | some ρ2 => if i = j then .stuck else .ok .nx ρ2
      | none => .stuck
    else .exc c' x ρ
  | o => o
section
variable (U : Consts) (C : Calls)
mutual
def runS : St → Rho → Out Fl
  | .asg i e, ρ => (evE U C e ρ).bind fun v ρ1 => store i ρ1 v
  | .asgT is e, ρ => (evE U C e ρ).bind fun v ρ1 => (fz ρ1 v).bind fun x ρ2 => match (Tg.tp is).to x ρ2 with
    | some ρ3 => .ok .nx ρ3
    | none => .stuck
  | .par2 i j a b, ρ => (evE U C a ρ).bind fun u ρ1 => (fz ρ1 u).bind fun x ρ2 => (evE U C b ρ2).bind fun v ρ3 => (fz ρ3 v).bind fun y ρ4 =>
      match (put ρ4 i (.d x)).bind fun ρ5 => put ρ5 j (.d y) with
      | some ρ6 => .ok .nx ρ6
      | none => .stuck
  | .par is es, ρ => (keeps U C es ρ).bind fun us ρ1 => match putAll is us ρ1 with
      | some ρ2 => .ok .nx ρ2
      | none => .stuck
  | .setIx i k e, ρ => (evE U C e ρ).bind fun v ρ1 => (fz ρ1 v).bind fun y ρ2 => match get ρ2 i with
    | .o _ _ _ => (evE U C k ρ2).bind fun w ρ3 => match w with
      | .d x => setAt i x y ρ3
      | _ => .stuck
    | _ => .stuck
  | .exs e, ρ => (evE U C e ρ).bind fun _ ρ1 => .ok .nx ρ1
  | .ret e, ρ => (evE U C e ρ).bind fun v ρ1 => leave ρ1 v
  | .retN, ρ => .ok (.ret (.d .none)) ρ
  | .ite c a b, ρ => (asB (evE U C c ρ)).bind fun t ρ1 => if t then runSs a ρ1 else runSs b ρ1
  | .whl c b, ρ => whlL (fun ρ => asB (evE U C c ρ)) (runSs b) WF ρ
  | .forr tg s b, ρ => (evSrc U C s ρ).bind fun il ρ1 => walked (forL tg.to (runSs b) il.1 (lock ρ1 il.2)) il.2
  | .pass, ρ => .ok .nx ρ
  | .brk, ρ => .ok .bk ρ
  | .cnt, ρ => .ok .ct ρ
  | .raise c e, ρ => (evE U C e ρ).bind fun v ρ1 => (fz ρ1 v).bind fun x ρ2 => .exc c x ρ2
  | .tryC b c i j, ρ => caughtO c i j (runSs b ρ)
def runSs : Sts → Rho → Out Fl
  | .nil, ρ => .ok .nx ρ
  | .cons s r, ρ => (runS s ρ).bind fun f ρ1 => match f with
    | .nx => runSs r ρ1
    | .ret r => .ok (.ret r) ρ1
    | .bk => .ok .bk ρ1
    | .ct => .ok .ct ρ1
end
end

/-- a def: how many parameters, how many slots, its body -/
structure Fd where
  np : Nat
  ns : Nat
  body : Sts
def Fd.enter (F : Fd) (avs : List AV) : Rho := (avs.map fun a => match a with | .d x => Vr.d x | .o c => .o true false c | .x c v => .x c v) ++ List.replicate (F.ns - avs.length) .no
def Fd.run (U : Consts) (C : Calls) (F : Fd) (avs : List AV) : CO :=
  if avs.length = F.np ∧ F.np ≤ F.ns then
    match runSs U C F.body (F.enter avs) with
    | .ok .nx ρ => .ret (.d .none) (ρ.take F.np)
    | .ok (.ret r) ρ => .ret r (ρ.take F.np)
    | .exc c x ρ => .exc c x (ρ.take F.np)
    | _ => .stuck
  else .stuck
/-- all defs, by levels -/
def calls (U : Consts) (T : List Fd) : Nat → Calls
  | 0, _, _ => .stuck
  | n + 1, f, avs => match T[f]? with
    | some F => F.run U (calls U T n) avs
    | none => .stuck
end Ev

set_option Elab.async false
set_option linter.all false
set_option maxRecDepth 100000
/-! What the evaluator's states stand for. -/
namespace Ev
open PySem PySem.Spec PyProof.Rows
open L2 hiding Dp DpAll Dp.reads Dp.readsAll

abbrev Frg := PySem.W.Frag
abbrev Sub (G H : Hp) : Prop := ∀ a o, G a = some o → H a = some o
theorem Sub.rfl {G : Hp} : Sub G G := fun _ _ h => h
theorem Sub.tr {G H J : Hp} (a : Sub G H) (b : Sub H J) : Sub G J := fun x o h => b x o (a x o h)
theorem Sub.add {G : Hp} {a : Addr} {o : HO} (h : G a = none) : Sub G (upd G a o) := fun b u e => by
  by_cases hb : b = a
  · subst hb; rw [h] at e; cases e
  · rw [upd_ne hb]; exact e
theorem Sub.upd {G H : Hp} {a : Addr} {o : HO} (s : Sub G H) : Sub (L2.upd G a o) (L2.upd H a o) := fun b u e => by
  by_cases hb : b = a
  · subst hb; rw [upd_same] at e ⊢; exact e
  · rw [upd_ne hb] at e ⊢; exact s b u e
theorem Sub.at {G H : Hp} {a : Addr} {o : HO} (s : Sub G H) (h : H a = some o) : Sub (L2.upd G a o) H := fun b u e => by
  by_cases hb : b = a
  · subst hb; rw [upd_same] at e; cases e; exact h
  · rw [upd_ne hb] at e; exact s b u e

/-! ### data -/
mutual
inductive Dp (K : Frg) (H : Hp) : V → PyData → Prop
  | non : Dp K H .non .none
  | bl (b : Bool) : Dp K H (.bl b) (.bool b)
  | int (i : Int) : Dp K H (.int i) (.int i)
  | str (x : Str) : Dp K H (.str x) (.str x)
  | lst {a : Addr} {xs : List V} {ds : List PyData} : SqL K H a xs → DpAll K H xs ds → Dp K H (.ref a) (.list ds)
  | tup {a : Addr} {xs : List V} {ds : List PyData} : SqT K H a xs → DpAll K H xs ds → Dp K H (.ref a) (.tuple ds)
  | dic {a : Addr} : H a = some (.dK []) → Dp K H (.ref a) (.dict [])
inductive DpAll (K : Frg) (H : Hp) : List V → List PyData → Prop
  | nil : DpAll K H [] []
  | cons {v : V} {vs : List V} {d : PyData} {ds : List PyData} : Dp K H v d → DpAll K H vs ds → DpAll K H (v :: vs) (d :: ds)
end
theorem dict0 {P : Program} {w : World} {H : Hp} {h : Heap} {a : Addr} (ok : HOk P w H h) (e : H a = some (.dK [])) : (a == sysModules) = false ∧ ∃ o es n, h.get? a = some o ∧ o.cls = .type "dict" ∧ o.data = .dict es n ∧ es.toList = [] := by
  obtain ⟨_, hs, vs, r, o, es, ep, ho, hx, hd, _, hp, _⟩ := ok a _ e
  cases r
  refine ⟨hs, o, es, ep, ho, hx.1, hd, ?_⟩
  have := hp.length
  simpa using this
section
variable {X : Cx} {pins : List (Addr × Obj)} {σ : L2.St} {H : Hp} {s : Shared}
mutual
theorem Dp.reads (I : Inv X pins σ H s) : ∀ (d : PyData) (v : V) (u : Value), Dp X.K H v d → RelV v u → ∃ as, Reads s.heap u d as
  | .none, _, _, h, r => by
    cases h
    cases r
    exact ⟨_, Reads.none⟩
  | .bool b, _, _, h, r => by
    cases h
    cases r
    exact ⟨_, Reads.bool b⟩
  | .int i, _, _, h, r => by
    cases h
    obtain ⟨t, rfl⟩ := r
    exact ⟨_, Reads.int i t⟩
  | .str x, _, _, h, r => by
    cases h
    obtain ⟨t, rfl⟩ := r
    exact ⟨_, Reads.str x t⟩
  | .list ds, _, _, h, r => by
    cases h with
    | lst hs ha =>
      cases r
      obtain ⟨its, rv, ⟨o, n, ho, hc, _, hd⟩, _⟩ := I.list hs
      obtain ⟨as, hr⟩ := Dp.readsAll I ds _ its ha rv
      exact ⟨_, Reads.list ho hc hd hr⟩
  | .tuple ds, _, _, h, r => by
    cases h with
    | tup hs ha =>
      cases r
      obtain ⟨its, rv, ⟨o, ho, hc, n, hd⟩, _⟩ := I.tuple hs
      obtain ⟨as, hr⟩ := Dp.readsAll I ds _ its ha rv
      exact ⟨_, Reads.tuple ho hc hd hr⟩
  | .dict _, _, _, h, r => by
    cases h with
    | dic e =>
      cases r
      obtain ⟨_, o, es, n, h1, h2, h3, h4⟩ := dict0 I.hok e
      exact ⟨_, Reads.dict (kvs := []) h1 h2 h3 (by rw [h4]; exact .nil) (by rw [h4]; exact .nil)⟩
theorem Dp.readsAll (I : Inv X pins σ H s) : ∀ (ds : List PyData) (vs : List V) (us : List Value), DpAll X.K H vs ds → Vals vs us → ∃ as, ReadsAll s.heap us ds as
  | [], _, _, h, r => by
    cases h
    cases r
    exact ⟨_, ReadsAll.nil⟩
  | d :: ds, _, _, h, r => by
    cases h with
    | cons h1 h2 =>
      cases r with
      | cons r1 r2 =>
        obtain ⟨as, q1⟩ := Dp.reads I d _ _ h1 r1
        obtain ⟨bs, q2⟩ := Dp.readsAll I ds _ _ h2 r2
        exact ⟨_, ReadsAll.cons q1 q2⟩
end
end
section
variable {K : Frg} {H : Hp}
mutual
/-- without dicts: the kit's -/
theorem Dp.kit : ∀ {d : PyData} {v : V}, d.hasDict = false → Dp K H v d → L2.Dp K H v d
  | .none, _, _, h => by cases h; exact .non
  | .bool b, _, _, h => by cases h; exact .bl b
  | .int i, _, _, h => by cases h; exact .int i
  | .str x, _, _, h => by cases h; exact .str x
  | .list ds, _, n, h => by
    cases h with
    | lst h1 h2 => exact .lst h1 (DpAll.kit (by simpa [PyData.hasDict] using n) h2)
  | .tuple ds, _, n, h => by
    cases h with
    | tup h1 h2 => exact .tup h1 (DpAll.kit (by simpa [PyData.hasDict] using n) h2)
  | .dict _, _, n, _ => by simp [PyData.hasDict] at n
theorem DpAll.kit : ∀ {ds : List PyData} {vs : List V}, PyData.hasDictAll ds = false → DpAll K H vs ds → L2.DpAll K H vs ds
  | [], _, _, h => by cases h; exact .nil
  | d :: ds, _, n, h => by
    simp only [PyData.hasDictAll, Bool.or_eq_false_iff] at n
    cases h with
    | cons h1 h2 => exact .cons (Dp.kit n.1 h1) (DpAll.kit n.2 h2)
end
end
theorem nodict_of_shaped {d : PyData} (h : SeqAt.shaped d = true) : d.hasDict = false := by
  simp only [SeqAt.shaped, Bool.and_eq_true] at h
  exact PyData.hasDict_of_canLay d h.1
section
variable {K : Frg} {G H : Hp}
theorem sql_up (s : Sub G H) {a : Addr} {xs : List V} (h : SqL K G a xs) : SqL K H a xs := by
  rcases h with (h | ⟨o, h⟩) | h
  · exact .inl (.inl (s _ _ h))
  · exact .inl (.inr ⟨o, s _ _ h⟩)
  · exact .inr h
theorem sqt_up (s : Sub G H) {a : Addr} {xs : List V} (h : SqT K G a xs) : SqT K H a xs := by
  rcases h with (h | ⟨o, h⟩) | h
  · exact .inl (.inl (s _ _ h))
  · exact .inl (.inr ⟨o, s _ _ h⟩)
  · exact .inr h
mutual
theorem dp_up (s : Sub G H) : ∀ {d : PyData} {v : V}, Dp K G v d → Dp K H v d
  | .none, _, h => by cases h; exact .non
  | .bool b, _, h => by cases h; exact .bl b
  | .int i, _, h => by cases h; exact .int i
  | .str x, _, h => by cases h; exact .str x
  | .list ds, _, h => by
    cases h with
    | lst h1 h2 => exact .lst (sql_up s h1) (dps_up s h2)
  | .tuple ds, _, h => by
    cases h with
    | tup h1 h2 => exact .tup (sqt_up s h1) (dps_up s h2)
  | .dict _, _, h => by
    cases h with
    | dic e => exact .dic (s _ _ e)
theorem dps_up (s : Sub G H) : ∀ {ds : List PyData} {vs : List V}, DpAll K G vs ds → DpAll K H vs ds
  | [], _, h => by cases h; exact .nil
  | d :: ds, _, h => by
    cases h with
    | cons h1 h2 => exact .cons (dp_up s h1) (dps_up s h2)
end
theorem dps_len : ∀ {ds : List PyData} {vs : List V}, DpAll K G vs ds → vs.length = ds.length
  | [], _, h => by cases h; rfl
  | d :: ds, _, h => by
    cases h with
    | cons h1 h2 => simp [dps_len h2]
theorem dps_get : ∀ {ds : List PyData} {vs : List V} {i : Nat} {d : PyData}, DpAll K G vs ds → ds[i]? = some d → ∃ v, vs[i]? = some v ∧ Dp K G v d
  | [], _, _, _, _, e => by simp at e
  | d :: ds, _, 0, _, h, e => by
    cases h with
    | cons h1 h2 => simp at e; subst e; exact ⟨_, by simp, h1⟩
  | d :: ds, _, i + 1, _, h, e => by
    cases h with
    | cons h1 h2 =>
      obtain ⟨v, a, b⟩ := dps_get (i := i) h2 (by simpa using e)
      exact ⟨v, by simpa using a, b⟩
theorem dps_get' {ds : List PyData} {vs : List V} {i : Nat} {v : V} (h : DpAll K G vs ds) (e : vs[i]? = some v) : ∃ d, ds[i]? = some d ∧ Dp K G v d := by
  have hl := dps_len h
  have hi : i < vs.length := by
    rcases Nat.lt_or_ge i vs.length with z | z
    · exact z
    · rw [List.getElem?_eq_none z] at e; cases e
  have e2 : ds[i]? = some (ds[i]'(by omega)) := List.getElem?_eq_getElem _
  obtain ⟨w, a, b⟩ := dps_get h e2
  rw [e] at a; cases a
  exact ⟨_, e2, b⟩
theorem dps_app : ∀ {ds es : List PyData} {vs ws : List V}, DpAll K G vs ds → DpAll K G ws es → DpAll K G (vs ++ ws) (ds ++ es)
  | [], _, _, _, h, h' => by cases h; exact h'
  | d :: ds, _, _, _, h, h' => by
    cases h with
    | cons h1 h2 => exact .cons h1 (dps_app h2 h')
theorem dps_one {v : V} {d : PyData} (h : Dp K G v d) : DpAll K G [v] [d] := .cons h .nil
theorem dps_take : ∀ (n : Nat) {ds : List PyData} {vs : List V}, DpAll K G vs ds → DpAll K G (vs.take n) (ds.take n)
  | 0, _, _, _ => by simp; exact .nil
  | n + 1, [], _, h => by cases h; exact .nil
  | n + 1, d :: ds, _, h => by
    cases h with
    | cons h1 h2 => exact .cons h1 (dps_take n h2)
theorem dps_drop : ∀ (n : Nat) {ds : List PyData} {vs : List V}, DpAll K G vs ds → DpAll K G (vs.drop n) (ds.drop n)
  | 0, _, _, h => h
  | n + 1, [], _, h => by cases h; exact .nil
  | n + 1, d :: ds, _, h => by
    cases h with
    | cons h1 h2 => exact dps_drop n h2
theorem dps_set : ∀ (n : Nat) {ds : List PyData} {vs : List V} {v : V} {d : PyData}, DpAll K G vs ds → Dp K G v d → DpAll K G (vs.set n v) (ds.set n d)
  | _, [], _, _, _, h, _ => by cases h; exact .nil
  | 0, d :: ds, _, _, _, h, q => by
    cases h with
    | cons h1 h2 => exact .cons q h2
  | n + 1, d :: ds, _, _, _, h, q => by
    cases h with
    | cons h1 h2 => exact .cons h1 (dps_set n h2 q)
theorem dps_dropLast {ds : List PyData} {vs : List V} (h : DpAll K G vs ds) : DpAll K G vs.dropLast ds.dropLast := by
  rw [List.dropLast_eq_take, List.dropLast_eq_take, dps_len h]
  exact dps_take _ h

/-- data that can be read now: data for good, or a list that is owned -/
def RdV (K : Frg) (G H : Hp) (v : V) (d : PyData) : Prop := Dp K G v d ∨ ∃ a vs xs, v = .ref a ∧ H a = some (.lst vs) ∧ DpAll K G vs xs ∧ d = .list xs
theorem RdV.dp {v : V} {d : PyData} (h : RdV K G H v d) (s : Sub G H) : Dp K H v d := by
  rcases h with h | ⟨a, vs, xs, rfl, e, q, rfl⟩
  · exact dp_up s h
  · exact .lst (.inl (.inl e)) (dps_up s q)
theorem RdV.lst {v : V} {xs : List PyData} (h : RdV K G H v (.list xs)) (s : Sub G H) : ∃ a vs, v = .ref a ∧ SqL K H a vs ∧ DpAll K G vs xs := by
  rcases h with h | ⟨a, vs, xs', rfl, e, q, z⟩
  · cases h with
    | lst h1 h2 => exact ⟨_, _, rfl, sql_up s h1, h2⟩
  · cases z
    exact ⟨a, vs, rfl, .inl (.inl e), q⟩
theorem RdV.tup {v : V} {xs : List PyData} (h : RdV K G H v (.tuple xs)) (s : Sub G H) : ∃ a vs, v = .ref a ∧ SqT K H a vs ∧ DpAll K G vs xs ∧ Dp K G v (.tuple xs) := by
  rcases h with h | ⟨a, vs, xs', rfl, e, q, z⟩
  · have h' := h
    cases h with
    | tup h1 h2 => exact ⟨_, _, rfl, sqt_up s h1, h2, h'⟩
  · cases z
theorem RdV.int {v : V} {i : Int} (h : RdV K G H v (.int i)) : v = .int i := by
  rcases h with h | ⟨a, vs, xs', rfl, e, q, z⟩
  · cases h; rfl
  · cases z
theorem RdV.str {v : V} {i : Str} (h : RdV K G H v (.str i)) : v = .str i := by
  rcases h with h | ⟨a, vs, xs', rfl, e, q, z⟩
  · cases h; rfl
  · cases z
theorem RdV.bl {v : V} {i : Bool} (h : RdV K G H v (.bool i)) : v = .bl i := by
  rcases h with h | ⟨a, vs, xs', rfl, e, q, z⟩
  · cases h; rfl
  · cases z
theorem RdV.non {v : V} (h : RdV K G H v .none) : v = .non := by
  rcases h with h | ⟨a, vs, xs', rfl, e, q, z⟩
  · cases h; rfl
  · cases z
end

/-! ### dicts -/
def keyD : L2.Key → PyData
  | .inl i => .int i
  | .inr x => .str x
mutual
def noTx : NestedKey → Bool
  | .none => true
  | .num _ => true
  | .text _ => false
  | .tup ks => noTxs ks
def noTxs : List NestedKey → Bool
  | [] => true
  | k :: ks => noTx k && noTxs ks
end
mutual
/-- hash(k) of a key without texts -/
def hash0 : NestedKey → Int
  | .none => reduceHash 0xFCA86420
  | .num i => hashInt i
  | .text _ => 0
  | .tup ks => reduceHash (Builtin.Tuple.tupleHashOf (hash0s ks))
def hash0s : List NestedKey → List Int
  | [] => []
  | k :: ks => hash0 k :: hash0s ks
end
mutual
theorem hash0_eq (w : World) : ∀ k : NestedKey, noTx k = true → hash0 k = k.hash w
  | .none, _ => rfl
  | .num _, _ => rfl
  | .text _, h => by simp [noTx] at h
  | .tup ks, h => by
    simp only [hash0, NestedKey.hash]
    rw [hash0s_eq w ks (by simpa [noTx] using h)]
theorem hash0s_eq (w : World) : ∀ ks : List NestedKey, noTxs ks = true → hash0s ks = NestedKey.hashes w ks
  | [], _ => rfl
  | k :: ks, h => by
    simp only [noTxs, Bool.and_eq_true] at h
    simp only [hash0s, NestedKey.hashes]
    rw [hash0_eq w k h.1, hash0s_eq w ks h.2]
end
def ent0 (y : NestedKey × Addr × Value) : DictEntry := ⟨hash0 y.1, .ref y.2.1, y.2.2⟩
def RawP (x : NestedKey × Addr × V) (y : NestedKey × Addr × Value) : Prop := x.1 = y.1 ∧ x.2.1 = y.2.1 ∧ RelV x.2.2 y.2.2
/-- the dict at a, whose keys are tuples -/
def RawF (a : Addr) (xs : List (NestedKey × Addr × V)) (h : Heap) : Prop := (a == sysModules) = false ∧ xs.length ≤ sizeLine ∧ (xs.map (·.1)).Nodup ∧ ∃ ys : List (NestedKey × Addr × Value), Paired RawP xs ys ∧ ∃ o es ep, h.get? a = some o ∧ o.ExactDict ∧ o.data = .dict es ep ∧ es.toList = ys.map ent0
def RawO (a : Addr) (xs : List (NestedKey × Addr × V)) : HO := .ext (RawF a xs)
mutual
def nk : PyData → NestedKey
  | .int i => .num i
  | .tuple xs => .tup (nks xs)
  | _ => .none
def nks : List PyData → List NestedKey
  | [] => []
  | x :: xs => nk x :: nks xs
end
def KeyT (K : Frg) (G : Hp) (x : NestedKey × Addr × V) (p : PyData × PyData) : Prop := x.1 = nk p.1 ∧ tupB p.1 = true ∧ Dp K G (.ref x.2.1) p.1 ∧ Dp K G x.2.2 p.2
/-- what stands where a dict is -/
def DctO (K : Frg) (G : Hp) (a : Addr) (o : HO) (kvs : List (PyData × PyData)) : Prop :=
  (∃ es : List (L2.Key × V), o = .dK es ∧ Paired (fun (e : L2.Key × V) (p : PyData × PyData) => p.1 = keyD e.1 ∧ Dp K G e.2 p.2) es kvs) ∨
  (∃ xs : List (NestedKey × Addr × V), o = RawO a xs ∧ xs ≠ [] ∧ Paired (KeyT K G) xs kvs)
theorem pmap {α β : Type} {P Q : α → β → Prop} (h : ∀ a b, P a b → Q a b) : ∀ {xs : List α} {ys : List β}, Paired P xs ys → Paired Q xs ys
  | _, _, .nil => .nil
  | _, _, .cons a t => .cons (h _ _ a) (pmap h t)
theorem DctO.up {K : Frg} {G G' : Hp} {a : Addr} {o : HO} {kvs : List (PyData × PyData)} (h : DctO K G a o kvs) (s : Sub G G') : DctO K G' a o kvs := by
  rcases h with ⟨es, rfl, h⟩ | ⟨xs, rfl, hn, h⟩
  · exact .inl ⟨es, rfl, pmap (fun _ _ q => ⟨q.1, dp_up s q.2⟩) h⟩
  · exact .inr ⟨xs, rfl, hn, pmap (fun _ _ ⟨q1, q2, q5, q6⟩ => ⟨q1, q2, dp_up s q5, dp_up s q6⟩) h⟩
/-! ### the state of a frame -/
def ConAt (K : Frg) (G H : Hp) (a : Addr) : Con → Prop
  | .lst xs => ∃ vs, H a = some (.lst vs) ∧ DpAll K G vs xs
  | .dct kvs => ∃ o, H a = some o ∧ DctO K G a o kvs

abbrev Fix := Nat → Option (Addr × Bool)
/-- an error object at a: its class, its dict -/
def ExY (cls : Value) (d : Option Addr) (a : Addr) : HO := .ext fun h => ∃ (oe : Obj) (vs : Array Value), h.get? a = some oe ∧ Zc cls d oe ∧ oe.data = .fields vs
theorem exY_ok {P : Program} {w : World} {H : Hp} {h : Heap} {a : Addr} {cls : Value} {d : Option Addr} {oe : Obj} {vs : Array Value} (e : h.get? a = some oe) (z : Zc cls d oe) (f : oe.data = .fields vs) : ObjOk P w H h a (ExY cls d a) :=
  ⟨⟨oe, vs, e, z, f⟩, ⟨oe, e⟩, fun _ _ ⟨o, v, q, r⟩ k => ⟨o, v, k o q, r⟩⟩
/-- where the class of an error stands -/
def exA (K : Frg) (c : Nat) (C : Addr) : Prop := ∃ nm, excNames[c]? = some nm ∧ PySem.W.nsIn K mainGlobals nm = some (some (.ref C))
/-- an error as a value -/
def XAt (K : Frg) (G : Hp) (v : V) (c : Nat) (x : PyData) : Prop := ∃ (a d C : Addr) (u : V), v = .ref a ∧ exA K c C ∧ G a = some (ExY (.ref C) (some d) a) ∧ G d = some (.xd [("value", u)]) ∧ Dp K G u x
theorem XAt.up {K : Frg} {G H : Hp} {v : V} {c : Nat} {x : PyData} (h : XAt K G v c x) (s : Sub G H) : XAt K H v c x := by
  obtain ⟨a, d, C, u, h1, h2, h3, h4, h5⟩ := h
  exact ⟨a, d, C, u, h1, h2, s _ _ h3, s _ _ h4, dp_up s h5⟩
/-- B: what others own; A: the slots that are fixed (the caller's containers, those that are walked) -/
structure FR (K : Frg) (B : Hp) (A : Fix) (G H : Hp) (σ : L2.St) (ρ : Rho) : Prop where
  len : ρ.length = σ.length
  gh : Sub G H
  bh : Sub B H
  gb : ∀ a o, G a = some o → B a = none
  dat : ∀ i x, get ρ i = .d x → ∃ v, σ[i]? = some (some v) ∧ Dp K G v x
  own : ∀ i p c, get ρ i = .o p false c → ∃ a, σ[i]? = some (some (.ref a)) ∧ G a = none ∧ B a = none ∧ ConAt K G H a c
  lck : ∀ i p c, get ρ i = .o p true c → ∃ a xs vs, σ[i]? = some (some (.ref a)) ∧ c = .lst xs ∧ B a = some (.lst vs) ∧ DpAll K G vs xs
  inj : ∀ i j p c p' c' v, get ρ i = .o p false c → get ρ j = .o p' false c' → σ[i]? = some (some v) → σ[j]? = some (some v) → i = j
  exc : ∀ i c x, get ρ i = .x c x → ∃ v, σ[i]? = some (some v) ∧ XAt K G v c x
  fix : ∀ i a p, A i = some (a, p) → σ[i]? = some (some (.ref a)) ∧ ∃ l c, get ρ i = .o p l c ∧ (p || l) = true
  fixd : ∀ i p l c, get ρ i = .o p l c → (p || l) = true → ∃ a, A i = some (a, p)

/-- only new objects came -/
structure New (G H G' H' : Hp) : Prop where
  gg : Sub G G'
  gh : Sub G' H'
  hh : Sub H H'
  gn : ∀ a o, G' a = some o → G a = some o ∨ H a = none
theorem New.same {G H : Hp} (s : Sub G H) : New G H G H := ⟨Sub.rfl, s, Sub.rfl, fun _ _ h => .inl h⟩
theorem none_of_sub {G H : Hp} (s : Sub G H) {a : Addr} (h : H a = none) : G a = none := by
  cases q : G a with
  | none => rfl
  | some o => rw [s _ _ q] at h; cases h
/-- a new object that is data from now on -/
theorem New.both {G H : Hp} (s : Sub G H) {p : Addr} {o : HO} (h : H p = none) : New G H (upd G p o) (upd H p o) :=
  ⟨Sub.add (none_of_sub s h), s.upd, Sub.add h, fun a u e => by
    by_cases ha : a = p
    · exact .inr (ha ▸ h)
    · rw [upd_ne ha] at e; exact .inl e⟩
/-- a new object of one's own -/
theorem New.own {G H : Hp} (s : Sub G H) {p : Addr} {o : HO} (h : H p = none) : New G H G (upd H p o) :=
  ⟨Sub.rfl, s.tr (Sub.add h), Sub.add h, fun _ _ e => .inl e⟩
theorem New.tr {G H G1 H1 G2 H2 : Hp} (a : New G H G1 H1) (b : New G1 H1 G2 H2) : New G H G2 H2 :=
  ⟨a.gg.tr b.gg, b.gh, a.hh.tr b.hh, fun x o e => by
    rcases b.gn x o e with z | z
    · exact a.gn x o z
    · exact .inr (none_of_sub a.hh z)⟩

theorem ConAt.up {K : Frg} {G H G' H' : Hp} {a : Addr} {c : Con} (h : ConAt K G H a c) (g : Sub G G') (e : H' a = H a) : ConAt K G' H' a c := by
  cases c with
  | lst xs => obtain ⟨vs, h1, h2⟩ := h; exact ⟨vs, e.trans h1, dps_up g h2⟩
  | dct _ => obtain ⟨o, h1, h2⟩ := h; exact ⟨o, e.trans h1, h2.up g⟩
theorem ConAt.some {K : Frg} {G H : Hp} {a : Addr} {c : Con} (h : ConAt K G H a c) : ∃ o, H a = some o := by
  cases c with
  | lst xs => obtain ⟨vs, h1, h2⟩ := h; exact ⟨_, h1⟩
  | dct _ => obtain ⟨o, h1, h2⟩ := h; exact ⟨_, h1⟩
section
variable {K : Frg} {B G H G' H' : Hp} {A : Fix} {σ : L2.St} {ρ : Rho}
theorem FR.new (F : FR K B A G H σ ρ) (n : New G H G' H') : FR K B A G' H' σ ρ where
  len := F.len
  gh := n.gh
  bh := F.bh.tr n.hh
  gb := fun a o e => by
    rcases n.gn a o e with z | z
    · exact F.gb a o z
    · exact none_of_sub F.bh z
  dat := fun i x e => let ⟨v, a, b⟩ := F.dat i x e; ⟨v, a, dp_up n.gg b⟩
  own := fun i p c e => by
    obtain ⟨a, h1, h2, h3, h4⟩ := F.own i p c e
    obtain ⟨o, ho⟩ := h4.some
    refine ⟨a, h1, ?_, h3, h4.up n.gg ((n.hh _ _ ho).trans ho.symm)⟩
    cases q : G' a with
    | none => rfl
    | some u =>
      rcases n.gn a u q with z | z
      · rw [h2] at z; cases z
      · rw [ho] at z; cases z
  lck := fun i p c e => let ⟨a, xs, vs, h1, h2, h3, h4⟩ := F.lck i p c e; ⟨a, xs, vs, h1, h2, h3, dps_up n.gg h4⟩
  inj := F.inj
  exc := fun i c x e => let ⟨v, a, b⟩ := F.exc i c x e; ⟨v, a, b.up n.gg⟩
  fix := F.fix
  fixd := F.fixd

theorem get_set_same {ρ : Rho} {i : Nat} {x : Vr} (h : i < ρ.length) : get (ρ.set i x) i = x := by
  unfold get; rw [List.getElem?_set_self h]; rfl
theorem get_set_ne {ρ : Rho} {i j : Nat} {x : Vr} (h : i ≠ j) : get (ρ.set i x) j = get ρ j := by
  unfold get; rw [List.getElem?_set_ne h]
theorem get_set {ρ : Rho} {i j : Nat} {x : Vr} : get (ρ.set i x) j = if i = j ∧ i < ρ.length then x else get ρ j := by
  by_cases h : i = j
  · subst h
    by_cases hl : i < ρ.length
    · rw [if_pos ⟨rfl, hl⟩, get_set_same hl]
    · rw [if_neg (fun z => hl z.2)]
      unfold get
      rw [List.getElem?_eq_none (by simpa using hl), List.getElem?_eq_none (by simpa using hl)]
  · rw [if_neg (fun z => h z.1), get_set_ne h]
theorem get_lt {ρ : Rho} {i : Nat} (h : get ρ i ≠ .no) : i < ρ.length := by
  rcases Nat.lt_or_ge i ρ.length with z | z
  · exact z
  · exfalso; apply h; unfold get; rw [List.getElem?_eq_none z]; rfl

/-! ### values on their way -/
def RelEV (K : Frg) (B G H : Hp) (σ : L2.St) (ρ : Rho) (v : V) : EV → Prop
  | .d x => Dp K G v x
  | .o c => ∃ a, v = .ref a ∧ G a = none ∧ B a = none ∧ ConAt K G H a c ∧ ∀ i p c', get ρ i = .o p false c' → σ[i]? ≠ some (some v)
  | .b i => σ[i]? = some (some v) ∧ ∃ p l c, get ρ i = .o p l c
  | .x c x => XAt K G v c x
/-- .. that are held -/
def HR (K : Frg) (G : Hp) (σ : L2.St) (v : V) : EV → Prop
  | .d x => Dp K G v x
  | .o (.lst _) => False
  | .o (.dct kvs) => ∃ a o, v = .ref a ∧ G a = some o ∧ DctO K G a o kvs
  | .b i => σ[i]? = some (some v)
  | .x c x => XAt K G v c x
theorem HR.up {v : V} {u : EV} (h : HR K G σ v u) (s : Sub G G') : HR K G' σ v u := by
  cases u with
  | d x => exact dp_up s h
  | o c =>
    cases c with
    | lst _ => exact h
    | dct kvs => obtain ⟨a, o, h1, h2, h3⟩ := h; exact ⟨a, o, h1, s _ _ h2, h3.up s⟩
  | b i => exact h
  | x c y => exact XAt.up h s

theorem FR.rdb (F : FR K B A G H σ ρ) {i : Nat} {v : V} {x : PyData} (h : σ[i]? = some (some v)) (e : rd ρ (.b i) = some x) : RdV K G H v x := by
  cases q : get ρ i with
  | no => simp [rd, q] at e
  | x c y => simp [rd, q] at e
  | d y =>
    simp only [rd, q] at e; cases e
    obtain ⟨w, a, b⟩ := F.dat i _ q
    rw [h] at a; cases a
    exact .inl b
  | o p l c =>
    cases c with
    | dct _ => simp [rd, q] at e
    | lst xs =>
      simp only [rd, q] at e
      cases e
      cases l with
      | false =>
        obtain ⟨a, h1, _, _, vs, h4, h5⟩ := F.own i p _ q
        rw [h] at h1; cases h1
        exact .inr ⟨a, vs, xs, rfl, h4, h5, rfl⟩
      | true =>
        obtain ⟨a, xs', vs, h1, h2, h3, h4⟩ := F.lck i p _ q
        cases h2
        rw [h] at h1; cases h1
        exact .inr ⟨a, vs, xs, rfl, F.bh _ _ h3, h4, rfl⟩
theorem FR.rdh (F : FR K B A G H σ ρ) {u : EV} {v : V} {x : PyData} (h : HR K G σ v u) (e : rd ρ u = some x) : RdV K G H v x := by
  cases u with
  | d y => cases e; exact .inl h
  | o c =>
    cases c with
    | lst _ => exact h.elim
    | dct _ => cases e
  | x c y => cases e
  | b i => exact F.rdb h e
theorem FR.rde (F : FR K B A G H σ ρ) {u : EV} {v : V} {x : PyData} (h : RelEV K B G H σ ρ v u) (e : rd ρ u = some x) : RdV K G H v x := by
  cases u with
  | d y => cases e; exact .inl h
  | o c =>
    obtain ⟨a, rfl, _, _, h4, _⟩ := h
    cases c with
    | dct _ => cases e
    | lst xs =>
      cases e
      obtain ⟨vs, h5, h6⟩ := h4
      exact .inr ⟨a, vs, xs, rfl, h5, h6, rfl⟩
  | x c y => cases e
  | b i => exact F.rdb h.1 e

/-- a dict that can be read now -/
def RdK (K : Frg) (G H : Hp) (v : V) (kvs : List (PyData × PyData)) : Prop := ∃ a o, v = .ref a ∧ H a = some o ∧ DctO K G a o kvs
theorem FR.rkb (F : FR K B A G H σ ρ) {i : Nat} {v : V} {kvs : List (PyData × PyData)} (h : σ[i]? = some (some v)) (e : rdk ρ (.b i) = some kvs) : RdK K G H v kvs := by
  cases q : get ρ i with
  | no => simp [rdk, q] at e
  | x c y => simp [rdk, q] at e
  | d y => simp [rdk, q] at e
  | o p l c =>
    cases c with
    | lst _ => simp [rdk, q] at e
    | dct kvs' =>
      simp only [rdk, q] at e
      cases e
      cases l with
      | false =>
        obtain ⟨a, h1, _, _, o, h4, h5⟩ := F.own i p _ q
        rw [h] at h1; cases h1
        exact ⟨a, o, rfl, h4, h5⟩
      | true =>
        obtain ⟨a, xs', vs, h1, h2, h3, h4⟩ := F.lck i p _ q
        cases h2
theorem FR.rkh (F : FR K B A G H σ ρ) {u : EV} {v : V} {kvs : List (PyData × PyData)} (h : HR K G σ v u) (e : rdk ρ u = some kvs) : RdK K G H v kvs := by
  cases u with
  | d y => cases e
  | o c =>
    cases c with
    | lst _ => exact h.elim
    | dct _ => cases e; obtain ⟨a, o, h1, h2, h3⟩ := h; exact ⟨a, o, h1, F.gh _ _ h2, h3⟩
  | x c y => cases e
  | b i => exact F.rkb h e
theorem FR.rke (F : FR K B A G H σ ρ) {u : EV} {v : V} {kvs : List (PyData × PyData)} (h : RelEV K B G H σ ρ v u) (e : rdk ρ u = some kvs) : RdK K G H v kvs := by
  cases u with
  | d y => cases e
  | o c =>
    obtain ⟨a, rfl, _, _, h4, _⟩ := h
    cases c with
    | lst _ => cases e
    | dct _ => cases e; obtain ⟨o, h5, h6⟩ := h4; exact ⟨a, o, rfl, h5, h6⟩
  | x c y => cases e
  | b i => exact F.rkb h.1 e
/-- an object that no slot holds becomes data -/
theorem FR.frz (F : FR K B A G H σ ρ) {a : Addr} {o : HO} (hB : B a = none) (ha : H a = some o) (hn : ∀ i p c, get ρ i = .o p false c → σ[i]? ≠ some (some (.ref a))) : FR K B A (upd G a o) H σ ρ where
  len := F.len
  gh := F.gh.at ha
  bh := F.bh
  gb := fun b u e => by
    by_cases hb : b = a
    · rw [hb]; exact hB
    · rw [upd_ne hb] at e; exact F.gb b u e
  dat := fun i x e => by
    obtain ⟨v, h1, h2⟩ := F.dat i x e
    refine ⟨v, h1, dp_up ?_ h2⟩
    intro b u q
    by_cases hb : b = a
    · subst hb
      have z := F.gh _ _ q
      rw [ha] at z
      rw [upd_same]; exact z
    · rw [upd_ne hb]; exact q
  own := fun i p c e => by
    obtain ⟨b, h1, h2, h3, h4⟩ := F.own i p c e
    have hb : b ≠ a := fun z => hn i p c e (z ▸ h1)
    refine ⟨b, h1, by rw [upd_ne hb]; exact h2, h3, ?_⟩
    refine h4.up (fun b u q => ?_) rfl
    by_cases hb : b = a
    · subst hb
      have z := F.gh _ _ q
      rw [ha] at z
      rw [upd_same]; exact z
    · rw [upd_ne hb]; exact q
  lck := fun i p c e => by
    obtain ⟨b, xs, vs, h1, h2, h3, h4⟩ := F.lck i p c e
    refine ⟨b, xs, vs, h1, h2, h3, dps_up (fun b u q => ?_) h4⟩
    by_cases hb : b = a
    · subst hb
      have z := F.gh _ _ q
      rw [ha] at z
      rw [upd_same]; exact z
    · rw [upd_ne hb]; exact q
  inj := F.inj
  exc := fun i c x e => by
    obtain ⟨v, h1, h2⟩ := F.exc i c x e
    refine ⟨v, h1, h2.up (fun b u q => ?_)⟩
    by_cases hb : b = a
    · subst hb
      have z := F.gh _ _ q
      rw [ha] at z
      rw [upd_same]; exact z
    · rw [upd_ne hb]; exact q
  fix := F.fix
  fixd := F.fixd
theorem sub_frz {a : Addr} {o : HO} (h : G a = none) : Sub G (upd G a o) := Sub.add h
end
end Ev

set_option Elab.async false
set_option linter.all false
set_option maxRecDepth 100000
/-! What is shown of data that may hold empty dicts. -/
namespace Ev
open PySem PySem.Spec PyProof.Rows PyData
open L2 hiding Dp DpAll Dp.reads Dp.readsAll
section
variable {X : Cx} {pins : List (Addr × Obj)} {σ : L2.St} {H : Hp} {s : Shared}
mutual
theorem Dp.shows (I : Inv X pins σ H s) : ∀ (d : PyData) (v : V) (u : Value), Dp X.K H v d → RelV v u → d.showable = true → d.shown.length ≤ sizeLine → ∃ bs, ReadAtMost s.heap d.depth bs ∧ ReprK X.prog X.w bs s.heap d.depth u d.shown
  | .none, _, _, h, r, _, _ => by
    cases h; cases r
    exact ⟨[], (fun _ h => nomatch h), by simp only [PyData.shown]; exact .of_is ReprIs.none _ _ _⟩
  | .bool b, _, _, h, r, _, _ => by
    cases h; cases r
    exact ⟨[], (fun _ h => nomatch h), by simp only [PyData.shown]; exact .of_is (ReprIs.bool b) _ _ _⟩
  | .int i, _, _, h, r, hs, _ => by
    cases h
    obtain ⟨t, rfl⟩ := r
    exact ⟨[], (fun _ h => nomatch h), by simp only [PyData.shown]; exact .of_is (ReprIs.int t (by simpa [PyData.showable] using hs)) _ _ _⟩
  | .str x, _, _, h, r, _, hz => by
    cases h
    obtain ⟨t, rfl⟩ := r
    exact ⟨[], (fun _ h => nomatch h), by simp only [PyData.shown]; exact .of_is (ReprIs.str x t (by simpa only [PyData.shown] using hz)) _ _ _⟩
  | .list xs, _, _, h, r, hs, hz => by
    cases h with
    | @lst a vs _ hq ha =>
      cases r
      obtain ⟨its, rv, ⟨o, n, h1, h2, _, h3⟩, _⟩ := I.list hq
      obtain ⟨as, h4⟩ := Dp.readsAll I xs _ its ha rv
      have hz' : (listText (PyData.shownAll xs)).length ≤ sizeLine := by simpa only [PyData.shown] using hz
      obtain ⟨bs, hb, hk⟩ := Dp.showsAll I xs _ its ha rv (by simpa [PyData.showable] using hs) (fun t ht => Nat.le_trans (listText_mem_le ht) hz')
      have r : Reads s.heap (.ref a) (.list xs) _ := .list h1 h2 h3 h4
      have hna : a ∉ bs := not_mem_of_deeper r (by simp only [PyData.depth]; omega) hb
      refine ⟨a :: bs, ReadAtMost.cons r (by simp only [PyData.depth]; omega) hb, ?_⟩
      simp only [PyData.depth, PyData.shown]
      cases its with
      | nil =>
        cases h4
        simp only [PyData.shownAll, listText_nil]
        exact ReprK.listEmpty h1 h2 h3
      | cons x l => exact ReprK.list h1 h2 h3 hna (by simpa using hk.length_eq) (fun i y e => hk.item i y (by simpa using e))
  | .tuple xs, _, _, h, r, hs, hz => by
    cases h with
    | @tup a vs _ hq ha =>
      cases r
      obtain ⟨its, rv, ⟨o, h1, h2, n, h3⟩, _⟩ := I.tuple hq
      obtain ⟨as, h4⟩ := Dp.readsAll I xs _ its ha rv
      have hz' : (tupleText (PyData.shownAll xs)).length ≤ sizeLine := by simpa only [PyData.shown] using hz
      obtain ⟨bs, hb, hk⟩ := Dp.showsAll I xs _ its ha rv (by simpa [PyData.showable] using hs) (fun t ht => Nat.le_trans (tupleText_mem_le ht) hz')
      have r : Reads s.heap (.ref a) (.tuple xs) _ := .tuple h1 h2 h3 h4
      have hna : a ∉ bs := not_mem_of_deeper r (by simp only [PyData.depth]; omega) hb
      refine ⟨a :: bs, ReadAtMost.cons r (by simp only [PyData.depth]; omega) hb, ?_⟩
      simp only [PyData.depth, PyData.shown]
      exact ReprK.tuple h1 h2 h3 hna hk
  | .dict _, _, _, h, r, _, _ => by
    cases h with
    | @dic a e =>
      cases r
      obtain ⟨hsys, o, es, n, h1, h2, h3, h4⟩ := dict0 I.hok e
      have r : Reads s.heap (.ref a) (.dict []) _ := .dict (kvs := []) h1 h2 h3 (by rw [h4]; exact .nil) (by rw [h4]; exact .nil)
      have hb : ReadAtMost s.heap (PyData.depthKv []) [] := fun _ h => nomatch h
      refine ⟨[a], ReadAtMost.cons r (by simp only [PyData.depth]; omega) hb, ?_⟩
      simp only [PyData.depth, PyData.shown, PyData.shownKv]
      exact ReprK.dict h1 h2 h3 hsys (fun h => nomatch h) (by rw [h4]; exact .nil)
theorem Dp.showsAll (I : Inv X pins σ H s) : ∀ (ds : List PyData) (vs : List V) (us : List Value), DpAll X.K H vs ds → Vals vs us → PyData.showableAll ds = true → (∀ t ∈ PyData.shownAll ds, t.length ≤ sizeLine) →
    ∃ bs, ReadAtMost s.heap (PyData.depthAll ds) bs ∧ ReprAllK X.prog X.w bs s.heap (PyData.depthAll ds) us (PyData.shownAll ds)
  | [], _, _, h, r, _, _ => by
    cases h; cases r
    exact ⟨[], (fun _ h => nomatch h), by simp only [PyData.shownAll]; exact .nil⟩
  | d :: ds, _, _, h, r, hs, hz => by
    cases h with
    | cons q1 q2 =>
      cases r with
      | cons r1 r2 =>
        have hs' : d.showable = true ∧ PyData.showableAll ds = true := by simpa [PyData.showableAll] using hs
        obtain ⟨b1, hb1, k1⟩ := Dp.shows I d _ _ q1 r1 hs'.1 (hz _ (by simp only [PyData.shownAll]; exact List.mem_cons_self ..))
        obtain ⟨b2, hb2, k2⟩ := Dp.showsAll I ds _ _ q2 r2 hs'.2 (fun t ht => hz t (by simp only [PyData.shownAll]; exact List.mem_cons_of_mem _ ht))
        refine ⟨b1 ++ b2, ?_, ?_⟩
        · intro b hm
          simp only [PyData.depthAll]
          rcases List.mem_append.mp hm with hm | hm
          · obtain ⟨d', as', r', hd'⟩ := hb1 b hm
            exact ⟨d', as', r', Nat.le_trans hd' (Nat.le_max_left _ _)⟩
          · obtain ⟨d', as', r', hd'⟩ := hb2 b hm
            exact ⟨d', as', r', Nat.le_trans hd' (Nat.le_max_right _ _)⟩
        · simp only [PyData.depthAll, PyData.shownAll]
          exact .cons ((k1.more fun b hb => List.mem_append_left _ hb).level_le (Nat.le_max_left _ _)) (k2.more_le (fun b hb => List.mem_append_right _ hb) (Nat.le_max_right _ _))
end
theorem Dp.by (I : Inv X pins σ H s) {d : PyData} {a : Addr} (h : Dp X.K H (.ref a) d) (hs : d.showable = true) (hsz : d.shown.length ≤ sizeLine) : ∃ T idr, ShowsBy X.prog X.w s.heap a d T idr := by
  cases h with
  | @lst _ vs xs hq ha =>
    obtain ⟨its, rv, ⟨o, n, h1, h2, _, h3⟩, _⟩ := I.list hq
    obtain ⟨as, h4⟩ := Dp.readsAll I xs _ its ha rv
    have hz' : (listText (PyData.shownAll xs)).length ≤ sizeLine := by simpa only [PyData.shown] using hsz
    obtain ⟨bs, hb, hk⟩ := Dp.showsAll I xs _ its ha rv (by simpa [PyData.showable] using hs) (fun t ht => Nat.le_trans (listText_mem_le ht) hz')
    have hna : a ∉ bs := not_mem_of_deeper (.list h1 h2 h3 h4) (by simp only [PyData.depth]; omega) hb
    refine ⟨"list", "list.__repr__", F.slot_list_repr.toG, F.slot_list_str, F.slot_list_format, fun s hk0 => ⟨o, hk0 _ _ h1, h2⟩, fun A E s Q hg hu hk0 hQ => ?_⟩
    simp only [PyData.depth] at hu
    simp only [PyData.shown] at hQ
    cases its with
    | nil =>
      cases h4
      simp only [PyData.shownAll, listText_nil] at hQ
      exact call_list_repr_empty ⟨o, hk0 _ _ h1, h2⟩ (hk0 _ _ h1) h3 (hQ s.heap _ _ fun _ _ e => e)
    | cons x l =>
      exact call_list_reprK h1 h2 h3 hna (by simpa using hk.length_eq) (fun i y e => hk.item i y (by simpa using e)) hg (fun b _ => Clear.nil b) hu hk0 hQ hz'
  | @tup _ vs xs hq ha =>
    obtain ⟨its, rv, ⟨o, h1, h2, n, h3⟩, _⟩ := I.tuple hq
    obtain ⟨as, h4⟩ := Dp.readsAll I xs _ its ha rv
    have hz' : (tupleText (PyData.shownAll xs)).length ≤ sizeLine := by simpa only [PyData.shown] using hsz
    obtain ⟨bs, hb, hk⟩ := Dp.showsAll I xs _ its ha rv (by simpa [PyData.showable] using hs) (fun t ht => Nat.le_trans (tupleText_mem_le ht) hz')
    have hna : a ∉ bs := not_mem_of_deeper (.tuple h1 h2 h3 h4) (by simp only [PyData.depth]; omega) hb
    refine ⟨"tuple", "tuple.__repr__", F.slot_tuple_repr, F.slot_tuple_str, F.slot_tuple_format, fun s hk0 => ⟨o, hk0 _ _ h1, h2⟩, fun A E s Q hg hu hk0 hQ => ?_⟩
    simp only [PyData.depth] at hu
    simp only [PyData.shown] at hQ
    exact call_tuple_reprK h1 h2 h3 hna hk hg (fun b _ => Clear.nil b) hu hk0 hQ hz'
  | dic e =>
    obtain ⟨hsys, o, es, n, h1, h2, h3, h4⟩ := dict0 I.hok e
    refine ⟨"dict", "dict.__repr__", F.slot_dict_repr, F.slot_dict_str, F.slot_dict_format, fun s hk0 => ⟨o, hk0 _ _ h1, h2⟩, fun A E s Q hg hu hk0 hQ => ?_⟩
    simp only [PyData.depth, PyData.depthKv] at hu
    simp only [PyData.shown, PyData.shownKv] at hQ
    exact call_dict_reprK (as := []) (d := 0) (ps := []) h1 h2 h3 hsys (fun h => nomatch h) (by rw [h4]; exact .nil) hg (fun b _ => Clear.nil b) (by omega) hk0 hQ (by simpa only [PyData.shown, PyData.shownKv] using hsz)
theorem repr_dp {A : Around} {E : Value → Shared → Prop} {Q : Value → Shared → Prop} (I : Inv X pins σ H s) {d : PyData} {a : Addr} (h : Dp X.K H (.ref a) d) (hs : d.showable = true) (hg : A.guards = some []) (hu : A.units + (d.depth + 1) < cLine)
    (hQ : ∀ h' u tk, (∀ b o, s.heap.get? b = some o → h'.get? b = some o) → Q (.str d.shown u) { s with heap := h', toks := tk })
    (hsz : d.shown.length ≤ sizeLine) : wpAny (model X.prog X.w) A (call (.builtin "repr") [.ref a]) Q E s := by
  obtain ⟨T, idr, S⟩ := Dp.by I h hs hsz
  exact call_repr_slot (by omega) (S.typeIs s fun _ _ e => e) S.slotRepr (S.call A.in1 E s _ hg (by show A.units + 1 + d.depth < cLine; omega) (fun _ _ e => e) fun h' u tk hk => ⟨_, _, rfl, hQ h' u tk hk⟩)
end
end Ev

set_option Elab.async false
set_option linter.all false
set_option maxRecDepth 100000
/-! list.extend and list + list, whatever else the objects hold. -/
namespace Ev
open PySem PySem.Spec PyProof.Rows L2
section
variable {l b : Addr} {us ws : Array Value} {n m : Nat} {dd : Option Addr} {sl : Array (Option Value)}
theorem ext_tup (h1 : ¬(!us.isEmpty && Builtin.List.listTooLong (us.size + ws.size)) = true) (h2 : us.size ≤ sizeLine) (h3 : us.size + ws.size ≤ sizeLine + 1) :
    Meets (Builtin.«list.extend» ⟨[.ref l, .ref b], []⟩) (fun _ R s => s.heap.get? l = some { cls := .type "list", data := .seq us n } ∧ s.heap.get? b = some ⟨.type "tuple", dd, .seq ws m, sl⟩ ∧
      R (.ok (.ret Value.none)) { s with heap := s.heap.update l (Obj.mapSeq fun x => x ++ ws), toks := s.toks }) :=
  .of_wp fun prog w A R s h => by
    obtain ⟨q1, q2, q3, q4, q5⟩ := s
    obtain ⟨k1, k2, k3⟩ := h
    have f1 := AutoSeq1.idx_int
    have f2 := AutoSeq1.sub_tuple_tuple
    have f3 := AutoSeq1.sub_list_list
    have f4 := AutoSeq1.sub_tuple_list
    have f5 := AutoSeq1.sub_list_tuple
    have z : (us ++ ws).size ≤ sizeLine + 1 := by rw [Array.size_append]; exact h3
    wp_walk using (wpAny_updateSeq k1 rfl (hz := h2) (_hz' := z)), AutoSeq1.wpAny_loadPart' k1, AutoSeq1.wpAny_loadPart' k2
    exact ⟨_, rfl, k3⟩
theorem ext_lst {sl' : Array (Option Value)} (h1 : ¬(!us.isEmpty && Builtin.List.listTooLong (us.size + ws.size)) = true) (h2 : us.size ≤ sizeLine) (h3 : us.size + ws.size ≤ sizeLine + 1) :
    Meets (Builtin.«list.extend» ⟨[.ref l, .ref b], []⟩) (fun _ R s => s.heap.get? l = some { cls := .type "list", data := .seq us n } ∧ s.heap.get? b = some ⟨.type "list", none, .seq ws m, sl'⟩ ∧
      R (.ok (.ret Value.none)) { s with heap := s.heap.update l (Obj.mapSeq fun x => x ++ ws), toks := s.toks }) :=
  .of_wp fun prog w A R s h => by
    obtain ⟨q1, q2, q3, q4, q5⟩ := s
    obtain ⟨k1, k2, k3⟩ := h
    have f1 := AutoSeq1.idx_int
    have f2 := AutoSeq1.sub_tuple_tuple
    have f3 := AutoSeq1.sub_list_list
    have f4 := AutoSeq1.sub_tuple_list
    have f5 := AutoSeq1.sub_list_tuple
    have z : (us ++ ws).size ≤ sizeLine + 1 := by rw [Array.size_append]; exact h3
    wp_walk using (wpAny_updateSeq k1 rfl (hz := h2) (_hz' := z)), AutoSeq1.wpAny_loadPart' k1, AutoSeq1.wpAny_loadPart' k2
    exact ⟨_, rfl, k3⟩
theorem add_lst {sl1 sl2 : Array (Option Value)} (h1 : us.size + ws.size ≤ sizeLine) :
    Meets (Builtin.«list.__add__» ⟨[.ref l, .ref b], []⟩) (fun _ R s => s.heap.get? l = some ⟨.type "list", none, .seq us n, sl1⟩ ∧ s.heap.get? b = some ⟨.type "list", none, .seq ws m, sl2⟩ ∧
      R (.ok (.ret (.ref s.heap.objs.size))) { s with heap := s.heap.push { cls := .type "list", data := .seq (us ++ ws) } }) :=
  .of_wp fun prog w A R s h => by
    obtain ⟨q1, q2, q3, q4, q5⟩ := s
    obtain ⟨k1, k2, k3⟩ := h
    have f1 := AutoSeq1.idx_int
    have f2 := AutoSeq1.sub_tuple_tuple
    have f3 := AutoSeq1.sub_list_list
    have f4 := AutoSeq1.sub_tuple_list
    have f5 := AutoSeq1.sub_list_tuple
    wp_walk using AutoSeq1.wpAny_loadPart' k1, AutoSeq1.wpAny_loadPart' k2
    exact ⟨_, rfl, k3⟩
end
end Ev

set_option Elab.async false
set_option linter.all false
set_option maxRecDepth 100000
/-! max, min of two data that are alike. -/
namespace Ev
open PySem PySem.W PySem.Calls PyProof.Rows PySem.SeqAt
section
variable {prog : Program} {w : World} {A : Around} {E : Value → Shared → Prop} {s : Shared} {a b : Value} {da db : PyData} {as bs : List Addr} {Q : Value → Shared → Prop}
theorem max_two_data (hh : A.handled = none) (ra : Reads s.heap a da as) (rb : Reads s.heap b db bs) (al : AlikeAll [da, db]) (hu : A.units + 1 + PyData.depthAll [da, db] < cLine)
    (h : ∀ h' tk, (∀ c o, s.heap.get? c = some o → h'.get? c = some o) → Q (if dataLt da db then b else a) { s with heap := h', toks := tk }) :
    wpAny (model prog w) A (call (.builtin "max") [a, b]) Q E s := by
  have hname : (toString "max" ++ toString ".loop" : String) = "max.loop" := by decide
  refine call_function_tree F.kind_max F.plain_max F.entry_max (F.args_max2 _ _) ?_
  show wpAny _ A.in1 (Builtin.Builtins.bindParams "max" ["key", "default"] 0 ⟨[], []⟩ >>= _) _ _ s
  refine wpAny_bind (wpAny_of_eq (show Builtin.Builtins.bindParams "max" ["key", "default"] 0 ⟨[], []⟩ = pure [none, none] from rfl) ?_)
  show wpAny _ A.in1 (newTuple [a, b] >>= _) _ _ s
  refine wpAny_bind (wpAny_newObj_type ?_)
  have k1 : ∀ c o, s.heap.get? c = some o → (s.heap.push { cls := .type "tuple", data := .seq #[a, b] }).get? c = some o := fun c o e => Heap.get?_push_of_some _ e
  have hT : (s.heap.push { cls := .type "tuple", data := .seq #[a, b] }).IsTuple s.heap.objs.size #[a, b] := ⟨_, Heap.get?_push_size _ rfl, rfl, 0, rfl⟩
  refine wpAny_bind (iter_tupleW (A := A.in1) (s := { s with heap := s.heap.push { cls := .type "tuple", data := .seq #[a, b] } }) hh hT fun s₂ e W st hfp hw hk => ?_)
  refine wpAny_bind (wpAny_newObj_type ?_)
  have hSf : s₂.heap.objs.size ∉ _ := fun hm => Nat.lt_irrefl _ (hfp _ hm)
  rw [hname]
  have rr : ReadsAll (s.heap.push { cls := .type "tuple", data := .seq #[a, b] }) [a, b] [da, db] (as ++ (bs ++ [])) := .cons (Reads.keeps k1 ra) (.cons (Reads.keeps k1 rb) .nil)
  refine wpAny_pure ⟨plainId_quiet F.plain_max_loop _, codeAny_max_loop_firstH W _ hw _ (cmpIn_gt (A := A.in1) (s := { s with heap := s.heap.push { cls := .type "tuple", data := .seq #[a, b] } }) (vs := #[a, b]) rr al (by show A.units + 1 + _ < _; exact hu)) s₂.heap.objs.size hSf (fresh_in hk) _ (by show 0 < 2; omega) (fun b o e => Heap.get?_push_of_some _ (hk b o e)) (W.frame 0 s₂ _ s₂.toks st (Nat.le_refl _) fun b _ o e => Heap.get?_push_of_some _ e) (Heap.get?_push_size _ rfl) fun v s' hP hm => ?_⟩
  obtain ⟨h', tk, rfl, hk'⟩ := moved_old e rfl (Moved.drop_new (tk := s₂.toks) hm (Nat.le_refl _))
  have hv : v = if dataLt da db then b else a := by
    cases hc : dataLt da db <;> simp [argBest, hc] at hP <;> simp [hP]
  rw [hv]
  exact h h' tk fun c o ec => hk' c o (k1 c o ec)
theorem min_two_data (hh : A.handled = none) (ra : Reads s.heap a da as) (rb : Reads s.heap b db bs) (al : AlikeAll [da, db]) (hu : A.units + 1 + PyData.depthAll [da, db] < cLine)
    (h : ∀ h' tk, (∀ c o, s.heap.get? c = some o → h'.get? c = some o) → Q (if dataLt db da then b else a) { s with heap := h', toks := tk }) :
    wpAny (model prog w) A (call (.builtin "min") [a, b]) Q E s := by
  have hname : (toString "min" ++ toString ".loop" : String) = "min.loop" := by decide
  refine call_function_tree F.kind_min F.plain_min F.entry_min (F.args_min2 _ _) ?_
  show wpAny _ A.in1 (Builtin.Builtins.bindParams "min" ["key", "default"] 0 ⟨[], []⟩ >>= _) _ _ s
  refine wpAny_bind (wpAny_of_eq (show Builtin.Builtins.bindParams "min" ["key", "default"] 0 ⟨[], []⟩ = pure [none, none] from rfl) ?_)
  show wpAny _ A.in1 (newTuple [a, b] >>= _) _ _ s
  refine wpAny_bind (wpAny_newObj_type ?_)
  have k1 : ∀ c o, s.heap.get? c = some o → (s.heap.push { cls := .type "tuple", data := .seq #[a, b] }).get? c = some o := fun c o e => Heap.get?_push_of_some _ e
  have hT : (s.heap.push { cls := .type "tuple", data := .seq #[a, b] }).IsTuple s.heap.objs.size #[a, b] := ⟨_, Heap.get?_push_size _ rfl, rfl, 0, rfl⟩
  refine wpAny_bind (iter_tupleW (A := A.in1) (s := { s with heap := s.heap.push { cls := .type "tuple", data := .seq #[a, b] } }) hh hT fun s₂ e W st hfp hw hk => ?_)
  refine wpAny_bind (wpAny_newObj_type ?_)
  have hSf : s₂.heap.objs.size ∉ _ := fun hm => Nat.lt_irrefl _ (hfp _ hm)
  rw [hname]
  have rr : ReadsAll (s.heap.push { cls := .type "tuple", data := .seq #[a, b] }) [a, b] [da, db] (as ++ (bs ++ [])) := .cons (Reads.keeps k1 ra) (.cons (Reads.keeps k1 rb) .nil)
  refine wpAny_pure ⟨plainId_quiet F.plain_min_loop _, codeAny_min_loop_firstH W _ hw _ (cmpIn_lt (A := A.in1) (s := { s with heap := s.heap.push { cls := .type "tuple", data := .seq #[a, b] } }) (vs := #[a, b]) rr al (by show A.units + 1 + _ < _; exact hu)) s₂.heap.objs.size hSf (fresh_in hk) _ (by show 0 < 2; omega) (fun b o e => Heap.get?_push_of_some _ (hk b o e)) (W.frame 0 s₂ _ s₂.toks st (Nat.le_refl _) fun b _ o e => Heap.get?_push_of_some _ e) (Heap.get?_push_size _ rfl) fun v s' hP hm => ?_⟩
  obtain ⟨h', tk, rfl, hk'⟩ := moved_old e rfl (Moved.drop_new (tk := s₂.toks) hm (Nat.le_refl _))
  have hv : v = if dataLt db da then b else a := by
    cases hc : dataLt db da <;> simp [argBest, hc] at hP <;> simp [hP]
  rw [hv]
  exact h h' tk fun c o ec => hk' c o (k1 c o ec)
end
end Ev

set_option Elab.async false
set_option linter.all false
set_option maxRecDepth 100000
/-! sorted of tuples of which some are empty. -/
namespace Ev
open PySem PySem.W PySem.Calls PyProof.Rows PySem.SeqAt
section
variable {prog : Program} {w : World} {A : Around} {s : Shared}
theorem tup_firsts : ∀ {vs : List Value} {ds : List PyData}, EachIs (fun v d => ∃ as, Reads s.heap v d as) vs ds → (∀ d, d ∈ ds → ∃ xs, d = .tuple xs) →
    ∃ fs : List (Option Value), ((∃ d, d ∈ ds ∧ d = .tuple []) → none ∈ fs) ∧ ∀ (E : Value → Shared → Prop) {Q : List (Option Value) → Shared → Prop}, Q fs s → wpAny (model prog w) A (vs.mapM firstOfTuple') Q E s
  | _, _, .nil, _ => ⟨[], fun ⟨d, h, _⟩ => by simp at h, fun E Q h => by rw [List.mapM_nil]; exact wpAny_pure h⟩
  | _, _, .cons (b := d) ⟨as, r⟩ t, ht => by
    obtain ⟨fs, h1, h2⟩ := tup_firsts t fun d hd => ht d (List.mem_cons_of_mem _ hd)
    obtain ⟨xs, rfl⟩ := ht d (List.mem_cons_self ..)
    cases r with
    | @tuple a o vs n _ _ ho hc hd hr =>
      refine ⟨vs[0]? :: fs, fun ⟨d', m, e⟩ => ?_, fun E Q h => ?_⟩
      · rcases List.mem_cons.mp m with z | z
        · rw [e] at z
          cases z
          have hv : vs.toList.length = 0 := SeqAt.ReadsAll.length _ _ _ hr
          have : vs[0]? = none := by rw [Array.getElem?_eq_none]; simpa using hv
          rw [this]; exact List.mem_cons_self ..
        · exact List.mem_cons_of_mem _ (h1 ⟨d', z, e⟩)
      · rw [List.mapM_cons]
        refine wpAny_bind ?_
        rw [kas_first_eq]
        have lk : Looks (model prog w) s.heap (typeOf (Value.ref a)) o.cls := (Looks.ld ho).andThen .now
        refine wpAny_bind (lk.here ?_)
        rw [hc, if_neg (by decide)]
        refine wpAny_bind (listItems_at ho hd (wpAny_pure (wpAny_bind (h2 E ?_))))
        exact wpAny_pure h
theorem tup_kind {vs : List Value} {ds : List PyData} (e : EachIs (fun v d => ∃ as, Reads s.heap v d as) vs ds) (ht : ∀ d, d ∈ ds → ∃ xs, d = .tuple xs) (hm : ∃ d, d ∈ ds ∧ d = .tuple []) :
    ∃ b : Bool, ∀ (E : Value → Shared → Prop) {Q : SortKind → Shared → Prop}, Q (if b then oneType' else general') s → wpAny (model prog w) A (keyKind' vs.toArray) Q E s := by
  obtain ⟨fs, h1, h2⟩ := tup_firsts (prog := prog) (w := w) (A := A) e ht
  have hn := h1 hm
  refine ⟨!((fs.toArray[0]?.bind id).isSome), fun E Q h => ?_⟩
  rw [keyKind'_eq, List.mapM_toArray, map_eq_pure_bind]
  refine wpAny_bind (wpAny_bind (h2 E (wpAny_pure ?_)))
  have notAll : ¬ (fs.toArray.all fun x => x.isSome) = true := by
    simp only [List.all_toArray, List.all_eq_true]
    intro z
    have := z none hn
    cases this
  rw [if_neg notAll]
  cases q : (fs.toArray[0]?.bind id).isSome with
  | true =>
    rw [if_pos rfl]
    rw [q] at h
    exact wpAny_pure h
  | false =>
    rw [if_neg (by decide)]
    rw [q] at h
    rw [oneTypeOnly'_eq, List.mapM_toArray, map_eq_pure_bind]
    refine wpAny_bind (wpAny_bind (wpAny_bind (kas_mapM (r := Value.type "tuple") _ (fun v hv Q' hq => ?_) (wpAny_pure ?_))))
    · obtain ⟨d, hd, as, r⟩ := e.left v hv
      obtain ⟨xs, rfl⟩ := ht d hd
      exact (looks_reads r).here hq
    · have ne : vs ≠ [] := by
        rintro rfl
        obtain ⟨d, hd, _⟩ := hm
        cases e; simp at hd
      obtain ⟨v, vr, rfl⟩ := List.exists_cons_of_ne_nil ne
      have same : ((List.map (fun _ => Value.type "tuple") (v :: vr)).toArray.all fun x => x == Value.type "tuple") = true := by
        simp only [List.all_toArray, List.all_map, List.all_eq_true]
        intro _ _
        rfl
      have fst : (List.map (fun _ => Value.type "tuple") (v :: vr)).toArray[0]? = some (Value.type "tuple") := by simp
      rw [fst]
      simp only [same, if_true]
      exact wpAny_pure (wpAny_pure h)
theorem call_tup_lt {E : Value → Shared → Prop} {Q : Value → Shared → Prop} {l b : Addr} {its its2 : Array Value} {e r : Nat → Bool} (hl : s.heap.IsTuple l its) (hb : s.heap.IsTuple b its2)
    (he : ∀ j (h1 : j < its.size) (h2 : j < its2.size), EqAt A.in1 s its[j] its2[j] (e j)) (hr : ∀ j (h1 : j < its.size) (h2 : j < its2.size), e j = false → RcLt A.in1 s its[j] its2[j] (r j))
    (h : Q (.bool (firstLt e r (decide (its.size < its2.size)) (List.range (min its.size its2.size)))) s) : wpAny (model prog w) A (call (.builtin "tuple.__lt__") [.ref l, .ref b]) Q E s := by
  obtain ⟨⟨c1, d1, t1, s1⟩, o1, k1, n1, m1⟩ := id hl
  obtain ⟨⟨c2, d2, t2, s2⟩, o2, k2, n2, m2⟩ := id hb
  simp only at k1 m1 k2 m2
  subst k1 m1 k2 m2
  exact call_meets PySem.F.slot_tuple_lt ⟨_, o1, rfl⟩ PySem.F.entry_tuple_lt (PySem.F.args_tuple_lt_2 _ _) (SeqAt.tuple_ltAt l b its its2 n1 n2 d1 d2 s1 s2 e r) ⟨o1, o2, he, hr, h⟩
theorem oneLt_tup {f : Bool} {xs ys : List PyData} {a b : Value} {as bs : List Addr} {E : Value → Shared → Prop} {Q : Bool → Shared → Prop} (ra : Reads s.heap a (.tuple xs) as) (rb : Reads s.heap b (.tuple ys) bs) (h : alike (.tuple xs) (.tuple ys) = true)
    (hu : A.units + min (PyData.tuple xs).depth (PyData.tuple ys).depth < cLine) (hq : Q (dataLt (.tuple xs) (.tuple ys)) s) : wpAny (model prog w) A (oneLt' f a b) Q E s := by
  cases f with
  | false => exact oneLt_alike (fun z => by cases z) ra rb h (by intro z; cases z) hu hq
  | true =>
    have hal : alikeAll xs ys = true := by simpa [alike] using h
    cases ra with
    | @tuple l o vs n _ as₁ h1 h2 h3 h4 =>
      cases rb with
      | @tuple l' o' vs' n' _ bs₁ k1 k2 k3 k4 =>
        have z1 : vs.size = xs.length := by simpa using SeqAt.ReadsAll.length _ _ _ h4
        have z2 : vs'.size = ys.length := by simpa using SeqAt.ReadsAll.length _ _ _ k4
        rw [dataLt_tuple, ← firstLt_toks xs ys hal, ← z1, ← z2] at hq
        rw [oneLt'_eq]
        simp only [if_true]
        refine wpAny_bind (wpAny_cRoomFor (room_here hu) (wpAny_bind ?_))
        refine wpAny_callSpecialIfBound?_slot (T := "tuple") ⟨_, h1, h2⟩ PySem.F.slot_tuple_lt (call_tup_lt (e := pairEq xs ys) (r := fun j => dataLt (xs.getD j .none) (ys.getD j .none)) ⟨_, h1, h2, _, h3⟩ ⟨_, k1, k2, _, k3⟩ (fun j j1 j2 => ?_) (fun j j1 j2 hj => ?_) ?_)
        · have q := eqAt_alikeAll xs ys A.in1 s vs.toList vs'.toList _ _ h4 k4 hal (room_in hu) j (by simpa using j1) (by simpa using j2)
          simpa using q
        · have q := rcLt_alikeAll xs ys A.in1 s vs.toList vs'.toList _ _ h4 k4 hal (room_in hu) j (by simpa using j1) (by simpa using j2) hj
          simpa using q
        · exact wpAny_truthy_bool hq
/-- tuples that read as alike data can be sorted, an empty one among them -/
theorem sorts_tup {vs : List Value} {ds : List PyData} (e : EachIs (fun v d => ∃ as, Reads s.heap v d as) vs ds) (hal : AllAlike ds) (ht : ∀ d, d ∈ ds → ∃ xs, d = .tuple xs) (hm : ∃ d, d ∈ ds ∧ d = .tuple []) (hu : ∀ d, d ∈ ds → A.units + d.depth < cLine) :
    SortsAt prog w A s (dataKind s.heap ds) vs := by
  refine ⟨fun v hv => ?_, ?_⟩
  · obtain ⟨d, hd, as, r⟩ := e.left v hv
    exact ⟨_, dataKind_some hal hd r⟩
  · obtain ⟨b, hb⟩ := tup_kind (prog := prog) (w := w) (A := A) e ht hm
    refine ⟨if b then oneType' else general', ?_, fun _ E Q hq => hb E hq⟩
    intro E x y a c Q ha hc hq
    obtain ⟨d, as, hd, ra, rfl⟩ := dataKind_inv ha
    obtain ⟨d', as', hd', rb, rfl⟩ := dataKind_inv hc
    have hdd := hal d hd d' hd'
    have room : A.units + min d.depth d'.depth < cLine := Nat.lt_of_le_of_lt (Nat.add_le_add_left (Nat.min_le_left _ _) _) (hu d hd)
    obtain ⟨xs, rfl⟩ := ht d hd
    obtain ⟨ys, rfl⟩ := ht d' hd'
    cases b with
    | true =>
      rw [if_pos rfl, keyLt'_oneType]
      exact oneLt_tup ra rb hdd room hq
    | false =>
      rw [if_neg (by decide)]
      have gen : keyLt' general' x y = oneLt' false x y := rfl
      rw [gen]
      exact oneLt_tup ra rb hdd room hq
theorem sorted_tups {β : Type} {R : Value → β → Prop} {enc : β → PyData} {vs : List Value} {bs : List β} {E : Value → Shared → Prop} {l : Addr} {Q : Value → Shared → Prop} (hl : s.heap.IsList l vs.toArray) (e : EachIs R vs bs) (er : EachIs (fun v b => ∃ as, Reads s.heap v (enc b) as) vs bs)
    (hal : AllAlike (bs.map enc)) (ht : ∀ d, d ∈ bs.map enc → ∃ xs, d = .tuple xs) (hm : ∃ d, d ∈ bs.map enc ∧ d = .tuple []) (hL : bs.length ≤ sizeLine) (hu : ∀ b, b ∈ bs → A.units + 2 + (enc b).depth < cLine)
    (h : ∀ out, out.length = bs.length → EachIs R out (bs.mergeSort (dataLe false enc)) → Q (.ref (s.heap.objs.size + 1)) { s with heap := sortedAll s.heap vs (List.toArray out) }) :
    wpAny (model prog w) A (call (.builtin "sorted") [.ref l]) Q E s := by
  have reads : EachIs (fun v b => ∃ as, Reads (sortingHeap (copyHeap s.heap vs) (s.heap.objs.size + 1) vs) v (enc b) as) vs bs := er.mono fun _ _ ⟨as, r⟩ =>
    ⟨as, PyProof.Rows.Reads.keeps (fun _ _ => sorting_copy_old) r⟩
  refine sorted_vals hl (sorts_tup (s := { s with heap := sortingHeap (copyHeap s.heap vs) (s.heap.objs.size + 1) vs }) (each_map (R := fun v d => ∃ as, Reads (sortingHeap (copyHeap s.heap vs) (s.heap.objs.size + 1) vs) v d as) enc reads) hal ht hm (fun d hd => ?_)) (by rw [e.length]; exact hL) (h _ (by rw [sortVals_length false rfl]; exact e.length) (sortVals_data false e reads hal))
  obtain ⟨b, hb, rfl⟩ := List.mem_map.mp hd
  exact hu b hb
end
end Ev

set_option Elab.async false
set_option linter.all false
set_option maxRecDepth 100000
/-! The operators and built-in functions on data: what the rules ask. -/
namespace Ev
open PySem PySem.Spec PyProof.Rows L2

def Give (K : Frg) (G H : Hp) (ev : EV) (Q : V → Hp → Prop) : Prop := match ev with
  | .d r => ∀ v G' H', New G H G' H' → Dp K G' v r → Q v H'
  | .o (.lst xs) => ∀ p vs G' H', New G H G' H' → H p = none → H' p = some (.lst vs) → G' p = none → DpAll K G' vs xs → Q (.ref p) H'
  | _ => False
section
variable {K : Frg} {G H : Hp} {Q : V → Hp → Prop}
theorem Give.now {r : PyData} {v : V} (g : Give K G H (.d r) Q) (s : Sub G H) (h : Dp K G v r) : Q v H := g v G H (New.same s) h
theorem Give.tup {xs : List PyData} {vs : List V} (g : Give K G H (.d (.tuple xs)) Q) (s : Sub G H) (h : DpAll K G vs xs) {p : Addr} (hp : H p = none) : Q (.ref p) (upd H p (.tup vs)) :=
  g _ _ _ (New.both s hp) (.tup (.inl (.inl upd_same)) (dps_up (Sub.add (none_of_sub s hp)) h))
theorem Give.lst {xs : List PyData} {vs : List V} (g : Give K G H (.o (.lst xs)) Q) (s : Sub G H) (h : DpAll K G vs xs) {p : Addr} (hp : H p = none) : Q (.ref p) (upd H p (.lst vs)) :=
  g p vs _ _ (New.own s hp) hp upd_same (none_of_sub s hp) h
end

theorem i64 : ((2 : Int) ^ 62 : Int) = 4611686018427387904 := by decide

theorem dps_rep {K : Frg} {G : Hp} {vs : List V} {ds : List PyData} (h : DpAll K G vs ds) : ∀ k : Nat, DpAll K G (List.replicate k vs).flatten (List.replicate k ds).flatten
  | 0 => .nil
  | k + 1 => by rw [List.replicate_succ, List.replicate_succ, List.flatten_cons, List.flatten_cons]; exact dps_app h (dps_rep h k)
theorem int_rmul_lst (a : Int) (t : Tok) (l : Addr) (items : Array Value) (n : Nat) (sl : Array (Option Value)) :
    Meets (Builtin.«int.__rmul__» ⟨[.int a t, .ref l], []⟩) (fun _ R s => s.heap.get? l = some { cls := .type "list", dict := none, data := .seq items n, slots := sl } ∧ R (.ok (.ret Value.notImplemented)) s) :=
  .of_wp fun prog w A R s h => by obtain ⟨hp, g, d, tk, os⟩ := s; obtain ⟨hl, h⟩ := h; wp_walk using wpAny_loadPart' hl; exact ⟨_, rfl, h⟩
theorem list_mulW (l : Addr) (items : Array Value) (n : Nat) (sl : Array (Option Value)) (x : Int) (u : Tok) (hc0 : ¬(!Builtin.List.listFitsIndex x) = true) (hc1 : ¬items.size * x.toNat > (2 ^ 63 - 1) / 8) (hc2 : ¬Builtin.List.listTooLong (items.size * x.toNat) = true)
    (hsz : (List.foldl (fun x1 x2 => x1 ++ x2) #[] (List.replicate (if items.isEmpty = true then 0 else x.toNat) items)).size ≤ sizeLine) :
    Meets (Builtin.«list.__mul__» ⟨[.ref l, .int x u], []⟩) (fun _ R s => s.heap.get? l = some { cls := .type "list", dict := none, data := .seq items n, slots := sl } ∧ R (.ok (.ret (Value.ref s.heap.objs.size))) { s with heap := s.heap.push { cls := Value.type "list", data := Data.seq (List.foldl (fun x1 x2 => x1 ++ x2) #[] (List.replicate (if items.isEmpty = true then 0 else x.toNat) items)) }, toks := s.toks }) :=
  .of_wp fun prog w A R s h => by
    obtain ⟨hp, g, d, tk, os⟩ := s
    obtain ⟨hl, h⟩ := h
    wp_walk using wpAny_loadPart' hl
    refine wpAny_ite_false (decide_eq_false (Nat.not_lt.mpr hsz)) ?_
    wp_walk using wpAny_loadPart' hl
    exact ⟨_, rfl, h⟩
section
variable {X : Cx}
/-- a list times an int -/
def rRepS (K : Frg) : R2 := fun x y H Q => ∃ l k xs, x = .ref l ∧ y = .int k ∧ SqL K H l xs ∧ -(2 ^ 63) ≤ k ∧ k < 2 ^ 63 ∧ xs.length * k.toNat ≤ sizeLine ∧
  ∀ p, H p = none → Q (.ref p) (upd H p (.lst (List.replicate k.toNat xs).flatten))
theorem op_repS : OpR X (binaryOp .Mult) (rRepS X.K) := by
  intro pins s σ H x y v u Q I rx ry h
  obtain ⟨l, k, xs, rfl, rfl, hH, h1, h2, hz, q⟩ := h
  cases rx
  obtain ⟨t, rfl⟩ := ry
  obtain ⟨its, r, ⟨o1, n, p1, c1, d1, t1⟩, z⟩ := I.list hH
  obtain ⟨oc, od, dt, sl⟩ := o1
  simp only at c1 d1 t1
  subst c1 d1 t1
  have hl := r.length
  have hlen : its.toArray.size * k.toNat ≤ sizeLine := by rw [List.size_toArray, ← hl]; exact hz
  have hcap : ¬ its.toArray.size * k.toNat > (2 ^ 63 - 1) / 8 := by
    have : (sizeLine : Nat) ≤ (2 ^ 63 - 1) / 8 := by decide
    omega
  have hfit : ¬ (!Builtin.List.listFitsIndex k) = true := by
    rw [fitsIndex_both h1 h2]
    exact Bool.false_ne_true
  have hlong : ¬ Builtin.List.listTooLong (its.toArray.size * k.toNat) = true := by
    rw [notLongL hlen]
    exact Bool.false_ne_true
  have hnew : List.foldl (fun x1 x2 => x1 ++ x2) #[] (List.replicate (if its.toArray.isEmpty = true then 0 else k.toNat) its.toArray) = (List.replicate k.toNat its).flatten.toArray := by
    have f0 : ∀ m : Nat, List.foldl (fun x1 x2 => x1 ++ x2) #[] (List.replicate m its.toArray) = (List.replicate m its).flatten.toArray := fun m => by
      have := foldl_rep its m []
      rw [List.nil_append] at this
      exact this
    rw [f0]
    cases its with
    | nil => simp
    | cons a r' => rw [if_neg (by simp)]
  refine wpAny_binaryOp_repeat_ref (T := "list") (U := "int") (by decide) ⟨_, p1, rfl⟩ (fun s' => typeIs_int s' k t) noFill_list_mul F.fills_int_mul F.slot_int_rmul repeat_list F.slot_int_index.lookup
    (call_meets F.slot_int_rmul (typeIs_int s k t) F.entry_int_rmul (F.args_int_rmul_2 _ _) (int_rmul_lst k t l its.toArray n sl)
      ⟨p1, rfl, ⟨_, p1, rfl⟩, call_meets F.slot_list_mul ⟨_, p1, rfl⟩ F.entry_list_mul (F.args_list_mul_2 _ _) (list_mulW l its.toArray n sl k t hfit hcap hlong (by rw [hnew, List.size_toArray, PyProof.Rows.lm_len_rep_flat, Nat.mul_comm, ← hl]; exact hz)) ⟨p1, ?_⟩⟩)
  rw [hnew]
  exact ⟨.ref _, _, I.lnew (t' := s.toks) (r.rep k.toNat) (by rw [PyProof.Rows.lm_len_rep_flat, Nat.mul_comm]; exact hz), rfl, q _ I.fresh⟩
def rBin (K : Frg) (op : Operator) : R2 := fun x y H Q => ∃ G u w ev, Sub G H ∧ RdV K G H x u ∧ RdV K G H y w ∧ binD op u w = some ev ∧ Give K G H ev Q
theorem op_bin (op : Operator) : OpR X (binaryOp op) (rBin X.K op) := by
  intro pins s σ H x y v u Q I rx ry h
  obtain ⟨G, d, e, ev, sub, hx, hy, he, g⟩ := h
  unfold binD at he
  split at he
  · cases he; cases hx.int; cases hy.int
    exact op_add pins s σ H _ _ v u Q I rx ry ⟨_, _, rfl, rfl, g.now sub (.int _)⟩
  · cases he; cases hx.int; cases hy.int
    exact op_sub pins s σ H _ _ v u Q I rx ry ⟨_, _, rfl, rfl, g.now sub (.int _)⟩
  · split at he
    · rename_i i j hm
      cases he; cases hx.int; cases hy.int
      simp only [mulOk, Bool.or_eq_true, decide_eq_true_eq] at hm
      rcases hm with (hm | hm) | hm
      · exact op_mul pins s σ H _ _ v u Q I rx ry ⟨_, _, rfl, rfl, .inl hm, g.now sub (.int _)⟩
      · exact op_mul pins s σ H _ _ v u Q I rx ry ⟨_, _, rfl, rfl, .inr hm, g.now sub (.int _)⟩
      · exact op_mulX pins s σ H _ _ v u Q I rx ry ⟨_, _, rfl, rfl, (by unfold CMulX; omega), g.now sub (.int _)⟩
    · cases he
  · split at he
    · rename_i i j hm
      cases he; cases hx.int; cases hy.int
      exact op_fdivW pins s σ H _ _ v u Q I rx ry ⟨_, _, rfl, rfl, hm, g.now sub (.int _)⟩
    · cases he
  · split at he
    · rename_i i j hm
      cases he; cases hx.int; cases hy.int
      exact op_mod pins s σ H _ _ v u Q I rx ry ⟨_, _, rfl, rfl, hm, g.now sub (.int _)⟩
    · cases he
  · split at he
    · rename_i i j hm
      cases he; cases hx.int; cases hy.int
      simp only [powOk, Bool.and_eq_true, decide_eq_true_eq] at hm
      obtain ⟨t, rfl⟩ := rx
      obtain ⟨t', rfl⟩ := ry
      exact pow_int hm.1 hm.2 ⟨.int _, H, I.tok _, ⟨_, rfl⟩, g.now sub (.int _)⟩
    · cases he
  · split at he
    · rename_i i j hm
      cases he; cases hx.int; cases hy.int
      simp only [shlOk, Bool.and_eq_true, decide_eq_true_eq] at hm
      obtain ⟨t, rfl⟩ := rx
      obtain ⟨t', rfl⟩ := ry
      exact lshift_int hm.1 hm.2 ⟨.int _, H, I.tok _, ⟨_, rfl⟩, g.now sub (.int _)⟩
    · cases he
  · split at he
    · rename_i i j hm
      cases he; cases hx.int; cases hy.int
      exact op_shr pins s σ H _ _ v u Q I rx ry ⟨_, _, rfl, rfl, hm, g.now sub (.int _)⟩
    · cases he
  · cases he; cases hx.int; cases hy.int
    exact op_and pins s σ H _ _ v u Q I rx ry ⟨_, _, rfl, rfl, g.now sub (.int _)⟩
  · cases he; cases hx.int; cases hy.int
    exact op_or pins s σ H _ _ v u Q I rx ry ⟨_, _, rfl, rfl, g.now sub (.int _)⟩
  · cases he; cases hx.int; cases hy.int
    exact op_xor pins s σ H _ _ v u Q I rx ry ⟨_, _, rfl, rfl, g.now sub (.int _)⟩
  · split at he
    · rename_i i j hm
      cases he; cases hx.str; cases hy.str
      exact op_add_str pins s σ H _ _ v u Q I rx ry ⟨_, _, rfl, rfl, hm, g.now sub (.str _)⟩
    · cases he
  · split at he
    · rename_i xs ys hm
      cases he
      obtain ⟨a, vs, rfl, h1, h2, h3⟩ := hx.tup sub
      obtain ⟨b, ws, rfl, k1, k2, k3⟩ := hy.tup sub
      have l1 := dps_len h2
      have l2 := dps_len k2
      refine op_catA pins s σ H _ _ v u Q I rx ry ⟨a, b, vs, ws, rfl, rfl, h1, k1, by rw [l1, l2]; exact hm, fun e => ?_, fun _ e => ?_, fun _ _ p hp => ?_⟩
      · subst e
        have e2 : xs = [] := List.length_eq_zero_iff.mp l1.symm
        subst e2
        exact g.now sub k3
      · subst e
        have e2 : ys = [] := List.length_eq_zero_iff.mp l2.symm
        subst e2
        exact g.now sub (by rw [List.append_nil]; exact h3)
      · exact g.tup sub (dps_app h2 k2) hp
    · cases he
  · split at he
    · rename_i xs ys hm
      cases he
      obtain ⟨a, vs, rfl, h1, h2⟩ := hx.lst sub
      obtain ⟨b, ws, rfl, k1, k2⟩ := hy.lst sub
      have l1 := dps_len h2
      have l2 := dps_len k2
      cases rx
      cases ry
      obtain ⟨i1, r1, ⟨o1, n1, p1, c1, d1, t1⟩, z1⟩ := I.list h1
      obtain ⟨i2, r2, ⟨o2, n2, p2, c2, d2, t2⟩, z2⟩ := I.list k1
      obtain ⟨oc, od, dt, sl⟩ := o1
      obtain ⟨oc', od', dt', sl'⟩ := o2
      simp only at c1 d1 t1 c2 d2 t2
      subst c1 d1 t1 c2 d2 t2
      have m1 := r1.length
      have m2 := r2.length
      have hz : i1.toArray.size + i2.toArray.size ≤ sizeLine := by simp only [List.size_toArray]; omega
      refine concat_meets ⟨_, p1, rfl⟩ ⟨_, p2, rfl⟩ noFill_list_add seq_list_add F.slot_list_add F.entry_list_add (F.args_list_add_2 _ _) (add_lst hz) ⟨p1, p2, ?_⟩
      have ea : i1.toArray ++ i2.toArray = (i1 ++ i2).toArray := by simp
      rw [ea]
      exact ⟨.ref _, _, I.lnew (t' := s.toks) (r1.append r2) (by rw [List.length_append]; omega), rfl, g.lst sub (dps_app h2 k2) I.fresh⟩
    · cases he
  · split at he
    · rename_i xs k hm
      cases he
      obtain ⟨a, vs, rfl, h1, h2, h3⟩ := hx.tup sub
      cases hy.int
      have l1 := dps_len h2
      refine op_repT pins s σ H _ _ v u Q I rx ry ⟨a, k, vs, rfl, rfl, h1, fun e => ?_, hm.2.1, hm.2.2.1, by rw [l1]; exact hm.2.2.2, fun p hp => g.tup sub (dps_rep h2 _) hp⟩
      subst e
      have e2 : xs = [] := List.length_eq_zero_iff.mp l1.symm
      subst e2
      cases hm.1
    · cases he
  · split at he
    · rename_i xs k hm
      cases he
      obtain ⟨a, vs, rfl, h1, h2⟩ := hx.lst sub
      cases hy.int
      have l1 := dps_len h2
      exact op_repS pins s σ H _ _ v u Q I rx ry ⟨a, k, vs, rfl, rfl, h1, by omega, by omega, by rw [l1]; exact hm.2.2, fun p hp => g.lst sub (dps_rep h2 _) hp⟩
    · cases he
  · cases he

/-! ### comparisons -/
def rCmp (K : Frg) (op : CmpOp) : R2 := fun x y H Q => ∃ G u w b, Sub G H ∧ RdV K G H x u ∧ RdV K G H y w ∧ cmpD op u w = some b ∧ Q (.bl b) H
theorem layAll_of {xs : List PyData} (h : SeqAt.shaped (.list xs) = true) : PyData.canLayAll0 xs = true := by
  have q := SeqAt.canLay_of_shaped h
  simpa [PyData.canLay0] using q
theorem layAll_of' {xs : List PyData} (h : SeqAt.shaped (.tuple xs) = true) : PyData.canLayAll0 xs = true := by
  have q := SeqAt.canLay_of_shaped h
  simpa [PyData.canLay0] using q
theorem room_lt {a b : PyData} {A : Around} (h : a.depth ≤ 60) (hu : A.units + 65 < cLine) : A.units + min a.depth b.depth < cLine := by
  have := Nat.min_le_left a.depth b.depth
  omega
theorem op_cmp (hu : X.A.units + 65 < cLine) (op : CmpOp) : OpR X (compareOp op) (rCmp X.K op) := by
  intro pins s σ H x y v u Q I rx ry h
  obtain ⟨G, d, e, b, sub, hx, hy, he, q⟩ := h
  cases op with
  | Eq =>
    simp only [cmpD] at he
    split at he
    · cases he; cases hx.str; cases hy.str
      exact op_eq pins s σ H _ _ v u Q I rx ry ⟨rfl, by rw [dec_str]; exact q⟩
    · split at he
      · rename_i hs
        cases he
        rw [Bool.and_eq_true] at hs
        exact op_eqD (by omega) pins s σ H x y v u Q I rx ry ⟨_, _, (hx.dp sub).kit (nodict_of_shaped hs.1), (hy.dp sub).kit (nodict_of_shaped hs.2), hs.1, hs.2, q⟩
      · cases he
  | NotEq =>
    simp only [cmpD] at he
    split at he
    · cases he; cases hx.str; cases hy.str
      exact op_ne pins s σ H _ _ v u Q I rx ry ⟨rfl, by rw [dec_str]; exact q⟩
    · split at he
      · rename_i hs
        cases he
        rw [Bool.and_eq_true] at hs
        exact op_neD (by omega) pins s σ H x y v u Q I rx ry ⟨_, _, (hx.dp sub).kit (nodict_of_shaped hs.1), (hy.dp sub).kit (nodict_of_shaped hs.2), hs.1, hs.2, q⟩
      · cases he
  | Lt =>
    simp only [cmpD] at he
    split at he
    · cases he; cases hx.int; cases hy.int
      exact op_lt pins s σ H _ _ v u Q I rx ry ⟨_, _, rfl, rfl, q⟩
    · split at he
      · rename_i xs ys hk
        cases he
        simp only [ltOk, Bool.and_eq_true, decide_eq_true_eq] at hk
        obtain ⟨as, r1⟩ := Dp.reads I _ x v (hx.dp sub) rx
        obtain ⟨bs, r2⟩ := Dp.reads I _ y u (hy.dp sub) ry
        exact PySem.W.lt_data r1 r2 hk.1 (by intro z; cases z) (room_lt hk.2 hu) ⟨.bl _, H, I, rfl, q⟩
      · cases he
    · cases he
  | LtE =>
    simp only [cmpD] at he
    split at he
    · cases he; cases hx.int; cases hy.int
      exact op_le pins s σ H _ _ v u Q I rx ry ⟨_, _, rfl, rfl, q⟩
    · split at he
      · rename_i xs ys hk
        cases he
        simp only [ltOk, Bool.and_eq_true, decide_eq_true_eq] at hk
        obtain ⟨as, r1⟩ := Dp.reads I _ x v (hx.dp sub) rx
        obtain ⟨bs, r2⟩ := Dp.reads I _ y u (hy.dp sub) ry
        exact PySem.W.le_data r1 r2 hk.1 (by intro z; cases z) (room_lt hk.2 hu) ⟨.bl _, H, I, rfl, q⟩
      · cases he
    · cases he
  | Gt =>
    simp only [cmpD] at he
    split at he
    · cases he; cases hx.int; cases hy.int
      exact op_gt pins s σ H _ _ v u Q I rx ry ⟨_, _, rfl, rfl, q⟩
    · split at he
      · rename_i xs ys hk
        cases he
        simp only [ltOk, Bool.and_eq_true, decide_eq_true_eq] at hk
        obtain ⟨as, r1⟩ := Dp.reads I _ x v (hx.dp sub) rx
        obtain ⟨bs, r2⟩ := Dp.reads I _ y u (hy.dp sub) ry
        exact PySem.W.gt_data r1 r2 hk.1 (by intro z; cases z) (room_lt hk.2 hu) ⟨.bl _, H, I, rfl, q⟩
      · cases he
    · cases he
  | GtE =>
    simp only [cmpD] at he
    split at he
    · cases he; cases hx.int; cases hy.int
      exact op_ge pins s σ H _ _ v u Q I rx ry ⟨_, _, rfl, rfl, q⟩
    · split at he
      · rename_i xs ys hk
        cases he
        simp only [ltOk, Bool.and_eq_true, decide_eq_true_eq] at hk
        obtain ⟨as, r1⟩ := Dp.reads I _ x v (hx.dp sub) rx
        obtain ⟨bs, r2⟩ := Dp.reads I _ y u (hy.dp sub) ry
        exact PySem.W.ge_data r1 r2 hk.1 (by intro z; cases z) (room_lt hk.2 hu) ⟨.bl _, H, I, rfl, q⟩
      · cases he
    · cases he
  | In =>
    obtain ⟨bs, r2⟩ := Dp.reads I d x v (hx.dp sub) rx
    simp only [cmpD] at he
    split at he
    · split at he
      · rename_i xs hs
        cases he
        rw [Bool.and_eq_true] at hs
        obtain ⟨as, r1⟩ := Dp.reads I _ y u (hy.dp sub) ry
        exact SeqAt.in_list_reads r1 r2 (layAll_of hs.2) (SeqAt.canLay_of_shaped hs.1) (room_in_shaped hs.1 hu) ⟨.bl _, H, I, rfl, q⟩
      · cases he
    · split at he
      · rename_i xs hs
        cases he
        rw [Bool.and_eq_true] at hs
        obtain ⟨as, r1⟩ := Dp.reads I _ y u (hy.dp sub) ry
        exact SeqAt.in_tuple_reads r1 r2 (layAll_of' hs.2) (SeqAt.canLay_of_shaped hs.1) (room_in_shaped hs.1 hu) ⟨.bl _, H, I, rfl, q⟩
      · cases he
    · cases he
  | NotIn =>
    obtain ⟨bs, r2⟩ := Dp.reads I d x v (hx.dp sub) rx
    simp only [cmpD] at he
    split at he
    · split at he
      · rename_i xs hs
        cases he
        rw [Bool.and_eq_true] at hs
        obtain ⟨as, r1⟩ := Dp.reads I _ y u (hy.dp sub) ry
        exact SeqAt.notIn_list_reads r1 r2 (layAll_of hs.2) (SeqAt.canLay_of_shaped hs.1) (room_in_shaped hs.1 hu) ⟨.bl _, H, I, rfl, q⟩
      · cases he
    · split at he
      · rename_i xs hs
        cases he
        rw [Bool.and_eq_true] at hs
        obtain ⟨as, r1⟩ := Dp.reads I _ y u (hy.dp sub) ry
        exact SeqAt.notIn_tuple_reads r1 r2 (layAll_of' hs.2) (SeqAt.canLay_of_shaped hs.1) (room_in_shaped hs.1 hu) ⟨.bl _, H, I, rfl, q⟩
      · cases he
    · cases he
  | Is =>
    simp only [cmpD] at he
    split at he
    · cases he; cases hx.bl; cases hy.bl
      exact op_isBl pins s σ H _ _ v u Q I rx ry ⟨_, _, rfl, rfl, q⟩
    · cases he; cases hx.non; cases hy.non
      exact op_isN pins s σ H _ _ v u Q I rx ry ⟨rfl, q⟩
    · cases he
    · rename_i hne
      cases he; cases hy.non
      have hx' : x ≠ .non := by
        rintro rfl
        rcases hx with hx | ⟨_, _, _, z, _⟩
        · cases hx; simp_all
        · cases z
      exact op_isN pins s σ H _ _ v u Q I rx ry ⟨rfl, by rw [decide_eq_false hx']; exact q⟩
    · cases he
  | IsNot =>
    simp only [cmpD] at he
    split at he
    · cases he; cases hx.bl; cases hy.bl
      exact op_notBl pins s σ H _ _ v u Q I rx ry ⟨_, _, rfl, rfl, q⟩
    · cases he; cases hx.non; cases hy.non
      exact op_notN pins s σ H _ _ v u Q I rx ry ⟨rfl, q⟩
    · cases he
    · rename_i hne
      cases he; cases hy.non
      have hx' : x ≠ .non := by
        rintro rfl
        rcases hx with hx | ⟨_, _, _, z, _⟩
        · cases hx; simp_all
        · cases z
      exact op_notN pins s σ H _ _ v u Q I rx ry ⟨rfl, by rw [decide_eq_false hx']; exact q⟩
    · cases he

/-! ### items and parts -/
def rIdx (K : Frg) : R2 := fun x y H Q => ∃ G u w r, Sub G H ∧ RdV K G H x u ∧ RdV K G H y w ∧ idxD u w = some r ∧ ∀ v, Dp K G v r → Q v H
theorem at_get {α : Type} {xs : List α} {i : Int} {v : α} (h : atI xs i = some v) : ∃ j, ixN xs.length i = some j ∧ xs[j]? = some v := by
  unfold atI at h
  cases q : ixN xs.length i with
  | none => rw [q] at h; cases h
  | some j => rw [q] at h; exact ⟨j, rfl, h⟩
theorem at_up {K : Frg} {G : Hp} {vs : List V} {xs : List PyData} {i : Int} {d : PyData} (h : DpAll K G vs xs) (e : atI xs i = some d) : ∃ v, atI vs i = some v ∧ Dp K G v d := by
  obtain ⟨j, h1, h2⟩ := at_get e
  obtain ⟨v, h3, h4⟩ := dps_get h h2
  refine ⟨v, ?_, h4⟩
  unfold atI
  rw [dps_len h, h1]
  exact h3
theorem ix_idx : IxR X (rIdx X.K) := by
  intro value slice pins s σ H x y v u Q I rx ry h hs
  obtain ⟨G, d, e, r, sub, hx, hy, he, q⟩ := h
  unfold idxD at he
  split at he
  · cases hy.int
    obtain ⟨a, vs, rfl, h1, h2⟩ := hx.lst sub
    obtain ⟨z, h3, h4⟩ := at_up h2 he
    exact ix_list value slice pins s σ H _ _ v u Q I rx ry ⟨a, vs, _, z, rfl, rfl, h1, h3, q z h4⟩ hs
  · cases hy.int
    obtain ⟨a, vs, rfl, h1, h2, _⟩ := hx.tup sub
    obtain ⟨z, h3, h4⟩ := at_up h2 he
    exact ix_tup value slice pins s σ H _ _ v u Q I rx ry ⟨a, vs, _, z, rfl, rfl, h1, h3, q z h4⟩ hs
  · cases he
theorem part_up {K : Frg} {G : Hp} {vs : List V} {xs : List PyData} {lo hi : Option Int} (h : DpAll K G vs xs) : DpAll K G (cutV vs lo hi) (part xs lo hi) := by
  unfold cutV part
  rw [dps_len h]
  exact dps_take _ (dps_drop _ h)
def rSlc (K : Frg) : V → Option Int → Option Int → Hp → VK → Prop := fun x lo hi H Q => ∃ G u ev, Sub G H ∧ RdV K G H x u ∧ slcD u lo hi = some ev ∧ Give K G H ev Q
theorem sl_slc : SlR X (rSlc X.K) := by
  intro pins s σ H x v vl vu lo hi sl Q I rx hs pl pu h
  obtain ⟨G, d, ev, sub, hx, he, g⟩ := h
  unfold slcD at he
  split at he
  · split at he
    · cases he
      obtain ⟨a, vs, rfl, h1, h2, h3⟩ := hx.tup sub
      refine sl_tupA pins s σ H _ v vl vu lo hi sl Q I rx hs pl pu ⟨a, vs, rfl, h1, fun hw => ?_, fun _ p hp => g.tup sub (part_up h2) hp⟩
      refine g.now sub ?_
      rename_i xs
      have l := dps_len h2
      have e : part xs lo hi = xs := by
        unfold part
        rw [← l, hw.1, hw.2, List.drop_zero, Nat.sub_zero, l]
        exact List.take_length
      rw [e]; exact h3
    · cases he
      obtain ⟨a, vs, rfl, h1, h2⟩ := hx.lst sub
      exact sl_list pins s σ H _ v vl vu lo hi sl Q I rx hs pl pu ⟨a, vs, rfl, h1, fun p hp => g.lst sub (part_up h2) hp⟩
    · cases he
  · cases he
end
end Ev

set_option Elab.async false
set_option linter.all false
set_option maxRecDepth 100000
/-! Dicts: what the kit's rules give. -/
namespace Ev
open PySem PySem.Spec PyProof.Rows L2
/-! ### keys -/
mutual
theorem nk_depth : ∀ d : PyData, plainKey d = true → (nk d).depth = d.depth
  | .int _, _ => by simp [nk, NestedKey.depth, PyData.depth]
  | .none, _ => by simp [nk, NestedKey.depth, PyData.depth]
  | .tuple xs, h => by
    simp only [nk, NestedKey.depth, PyData.depth]
    rw [nks_depth xs (by simpa [plainKey] using h)]
  | .bool _, h => by simp [plainKey] at h
  | .str _, h => by simp [plainKey] at h
  | .list _, h => by simp [plainKey] at h
  | .dict _, h => by simp [plainKey] at h
theorem nks_depth : ∀ l : List PyData, plainKeys l = true → NestedKey.depthAll (nks l) = PyData.depthAll l
  | [], _ => by simp [nks, NestedKey.depthAll, PyData.depthAll]
  | x :: l, h => by
    simp only [plainKeys, Bool.and_eq_true] at h
    simp only [nks, NestedKey.depthAll, PyData.depthAll]
    rw [nk_depth x h.1, nks_depth l h.2]
end
mutual
theorem nk_noTx : ∀ d : PyData, noTx (nk d) = true
  | .int _ => rfl
  | .none => rfl
  | .tuple xs => by simp only [nk, noTx]; exact nks_noTx xs
  | .bool _ => rfl
  | .str _ => rfl
  | .list _ => rfl
  | .dict _ => rfl
theorem nks_noTx : ∀ l : List PyData, noTxs (nks l) = true
  | [] => rfl
  | x :: l => by simp [nks, noTxs, nk_noTx x, nks_noTx l]
end
mutual
theorem nk_eqv : ∀ a b : PyData, plainKey a = true → plainKey b = true → PyData.eqv a b = NestedKey.beq (nk a) (nk b)
  | .int i, .int j, _, _ => by simp only [nk, NestedKey.beq, PyData.eqv]; by_cases h : i = j <;> simp [h]
  | .int i, .none, _, _ => by simp [nk, NestedKey.beq, PyData.eqv]
  | .int i, .tuple ys, _, _ => by simp [nk, NestedKey.beq, PyData.eqv]
  | .none, .int j, _, _ => by simp [nk, NestedKey.beq, PyData.eqv]
  | .none, .none, _, _ => by simp [nk, NestedKey.beq, PyData.eqv]
  | .none, .tuple ys, _, _ => by simp [nk, NestedKey.beq, PyData.eqv]
  | .tuple xs, .int j, _, _ => by simp [nk, NestedKey.beq, PyData.eqv]
  | .tuple xs, .none, _, _ => by simp [nk, NestedKey.beq, PyData.eqv]
  | .tuple xs, .tuple ys, h, h' => by
    simp only [nk, NestedKey.beq, PyData.eqv]
    exact nks_eqv xs ys (by simpa [plainKey] using h) (by simpa [plainKey] using h')
  | .bool _, _, h, _ => by simp [plainKey] at h
  | .str _, _, h, _ => by simp [plainKey] at h
  | .list _, _, h, _ => by simp [plainKey] at h
  | .dict _, _, h, _ => by simp [plainKey] at h
  | .int _, .bool _, _, h => by simp [plainKey] at h
  | .int _, .str _, _, h => by simp [plainKey] at h
  | .int _, .list _, _, h => by simp [plainKey] at h
  | .int _, .dict _, _, h => by simp [plainKey] at h
  | .none, .bool _, _, h => by simp [plainKey] at h
  | .none, .str _, _, h => by simp [plainKey] at h
  | .none, .list _, _, h => by simp [plainKey] at h
  | .none, .dict _, _, h => by simp [plainKey] at h
  | .tuple _, .bool _, _, h => by simp [plainKey] at h
  | .tuple _, .str _, _, h => by simp [plainKey] at h
  | .tuple _, .list _, _, h => by simp [plainKey] at h
  | .tuple _, .dict _, _, h => by simp [plainKey] at h
theorem nks_eqv : ∀ l r : List PyData, plainKeys l = true → plainKeys r = true → PyData.eqvAll l r = NestedKey.beqAll (nks l) (nks r)
  | [], [], _, _ => by simp [nks, NestedKey.beqAll, PyData.eqvAll]
  | [], _ :: _, _, _ => by simp [nks, NestedKey.beqAll, PyData.eqvAll]
  | _ :: _, [], _, _ => by simp [nks, NestedKey.beqAll, PyData.eqvAll]
  | x :: l, y :: r, h, h' => by
    simp only [plainKeys, Bool.and_eq_true] at h h'
    simp only [nks, NestedKey.beqAll, PyData.eqvAll]
    rw [nk_eqv x y h.1 h'.1, nks_eqv l r h.2 h'.2]
end
theorem tup_plain {d : PyData} (h : tupB d = true) : plainKey d = true ∧ d.depth ≤ 8 ∧ ∃ xs, d = .tuple xs := by
  cases d with
  | tuple xs => simp only [tupB, Bool.and_eq_true, decide_eq_true_eq] at h; exact ⟨by simpa [plainKey] using h.1, h.2, xs, rfl⟩
  | _ => cases h
theorem tup_eqv {a b : PyData} (h : tupB a = true) (h' : tupB b = true) : PyData.eqv a b = decide (nk a = nk b) := by
  rw [nk_eqv a b (tup_plain h).1 (tup_plain h').1, NestedKey.decide_eq]
theorem atom_eqv (e f : L2.Key) : PyData.eqv (keyD e) (keyD f) = decide (e = f) := by
  cases e with
  | inl i => cases f with
    | inl j => simp only [keyD, PyData.eqv]; by_cases h : i = j <;> simp [h]
    | inr y => simp [keyD, PyData.eqv]
  | inr x => cases f with
    | inl j => simp [keyD, PyData.eqv]
    | inr y => simp [keyD, PyData.eqv]; by_cases h : x = y <;> simp [h]
theorem atom_key {d : PyData} (h : atomB d = true) : ∃ e, d = keyD e := by
  cases d with
  | int i => exact ⟨.inl i, rfl⟩
  | str x => exact ⟨.inr x, rfl⟩
  | _ => cases h
theorem atom_keyD (e : L2.Key) : atomB (keyD e) = true := by cases e <;> rfl
theorem atom_not_tup {d : PyData} (h : atomB d = true) (h' : tupB d = true) : False := by
  cases d <;> first | (cases h; done) | (cases h'; done)
mutual
theorem nk_is {h : Heap} : ∀ (d : PyData) (v : Value) (as : List Addr), PySem.Reads h v d as → plainKey d = true → NestedIs h (nk d) v
  | .int _, _, _, r, _ => by cases r; exact .int _ _
  | .none, _, _, r, _ => by cases r; exact .none
  | .tuple xs, _, _, r, p => by
    cases r with
    | tuple h1 h2 h3 h4 => exact .tup h1 h2 h3 (nks_is xs _ _ h4 (by simpa [plainKey] using p))
  | .bool _, _, _, _, p => by simp [plainKey] at p
  | .str _, _, _, _, p => by simp [plainKey] at p
  | .list _, _, _, _, p => by simp [plainKey] at p
  | .dict _, _, _, _, p => by simp [plainKey] at p
theorem nks_is {h : Heap} : ∀ (l : List PyData) (vs : List Value) (as : List Addr), PySem.ReadsAll h vs l as → plainKeys l = true → NestedAll h (nks l) vs
  | [], _, _, r, _ => by cases r; exact .nil
  | x :: l, _, _, r, p => by
    simp only [plainKeys, Bool.and_eq_true] at p
    cases r with
    | cons h1 h2 => exact .cons (nk_is x _ _ h1 p.1) (nks_is l _ _ h2 p.2)
end

/-! ### pairs that are searched -/
theorem find_pair {α β : Type} {R : α → β → Prop} {f : α → Bool} {g : β → Bool} (h : ∀ a b, R a b → f a = g b) : ∀ {xs : List α} {ys : List β}, Paired R xs ys →
    (xs.find? f = none ∧ ys.find? g = none) ∨ ∃ a b, xs.find? f = some a ∧ ys.find? g = some b ∧ R a b
  | _, _, .nil => .inl ⟨rfl, rfl⟩
  | _, _, .cons (a := a) (b := b) r t => by
    rw [List.find?_cons, List.find?_cons, h _ _ r]
    cases e : g b with
    | true => exact .inr ⟨_, _, rfl, rfl, r⟩
    | false => exact find_pair h t
theorem any_pair {α β : Type} {R : α → β → Prop} {f : α → Bool} {g : β → Bool} (h : ∀ a b, R a b → f a = g b) : ∀ {xs : List α} {ys : List β}, Paired R xs ys → xs.any f = ys.any g
  | _, _, .nil => rfl
  | _, _, .cons r t => by rw [List.any_cons, List.any_cons, h _ _ r, any_pair h t]
theorem map_pair {α β : Type} {R S : α → β → Prop} {f : α → α} {g : β → β} (h : ∀ a b, R a b → S (f a) (g b)) : ∀ {xs : List α} {ys : List β}, Paired R xs ys → Paired S (xs.map f) (ys.map g)
  | _, _, .nil => .nil
  | _, _, .cons r t => .cons (h _ _ r) (map_pair h t)
theorem snoc_pair {α β : Type} {R : α → β → Prop} {a : α} {b : β} (h : R a b) : ∀ {xs : List α} {ys : List β}, Paired R xs ys → Paired R (xs ++ [a]) (ys ++ [b])
  | _, _, .nil => .cons h .nil
  | _, _, .cons r t => .cons r (snoc_pair h t)
theorem mem_pair {α β : Type} {R : α → β → Prop} : ∀ {xs : List α} {ys : List β}, Paired R xs ys → ∀ a ∈ xs, ∃ b ∈ ys, R a b
  | _, _, .nil, a, h => by cases h
  | _, _, .cons r t, a, h => by
    rcases List.mem_cons.mp h with rfl | h
    · exact ⟨_, List.mem_cons_self .., r⟩
    · obtain ⟨b, hb, q⟩ := mem_pair t a h
      exact ⟨b, List.mem_cons_of_mem _ hb, q⟩
theorem none_pair {α β : Type} {R : α → β → Prop} {ys : List β} (h : Paired R ([] : List α) ys) : ys = [] := by cases h; rfl
section
variable {X : Cx} {pins : List (Addr × Obj)} {σ : L2.St} {H G : Hp} {s : Shared} {a : Addr} {kvs : List (PyData × PyData)} {k : PyData} {y : V} {u : Value} {A : Around} {E : Value → Shared → Prop}
/-- a dict that serves a tuple as key -/
theorem dct_tup (I : Inv X pins σ H s) {o : HO} (e : H a = some o) (d : DctO X.K G a o kvs) (h : tupB k = true) (f : keyFits kvs k = true) :
    ∃ (xs : List (NestedKey × Addr × V)) (ys : List (NestedKey × Addr × Value)), Paired (KeyT X.K G) xs kvs ∧ Paired RawP xs ys ∧ (a == sysModules) = false ∧ xs.length ≤ sizeLine ∧ (xs.map (·.1)).Nodup ∧
      (∀ z ∈ ys, noTx z.1 = true) ∧ ((∀ z ∈ ys, (nestedKind X.prog X.w).is s.heap z.1 z.2.1) → s.heap.DictOfH (nestedKind X.prog X.w) a ys) := by
  rcases d with ⟨es, rfl, d⟩ | ⟨xs, rfl, hn, d⟩
  · have hk : kvs = [] := by
      simp only [keyFits, Bool.or_eq_true, Bool.and_eq_true] at f
      rcases f with ⟨f, _⟩ | ⟨_, f⟩
      · exact (atom_not_tup f h).elim
      · cases d with
        | nil => rfl
        | cons r t =>
          simp only [List.all_cons, Bool.and_eq_true] at f
          obtain ⟨r1, _⟩ := r
          exfalso
          rw [r1] at f
          exact atom_not_tup (atom_keyD _) f.1
    subst hk
    cases d
    obtain ⟨_, hd, vs, rel, o', es, ep, h1, h2, h3, _, h4, _⟩ := dk_of I.hok e
    cases rel
    have : es.toList = [] := by
      have := h4.length
      simpa using this
    refine ⟨[], [], .nil, .nil, hd, Nat.zero_le _, List.nodup_nil, (fun z hz => by cases hz), fun _ => ⟨o', es, ep, h1, h2, h3, by simpa using this, (fun z hz => by cases hz), List.nodup_nil⟩⟩
  · obtain ⟨⟨hd, hz, nd, ys, rp, o', es, ep, h1, h2, h3, h4⟩, _, _⟩ := I.hok a _ e
    have ntx : ∀ z ∈ ys, noTx z.1 = true := fun z hz => by
      obtain ⟨i, hi, ez⟩ := List.getElem_of_mem hz
      have hl := Paired.length rp
      have : ∀ {l : List (NestedKey × Addr × V)} {r : List (NestedKey × Addr × Value)}, Paired RawP l r → (∀ x ∈ l, noTx x.1 = true) → ∀ z ∈ r, noTx z.1 = true := by
        intro l r p q
        induction p with
        | nil => intro z hz; cases hz
        | cons r t ih =>
          intro z hz
          rcases List.mem_cons.mp hz with rfl | hz
          · rw [← r.1]; exact q _ (List.mem_cons_self ..)
          · exact ih (fun x hx => q x (List.mem_cons_of_mem _ hx)) z hz
      refine this rp (fun x hx => ?_) z hz
      obtain ⟨p, _, q⟩ := mem_pair d x hx
      rw [q.1]; exact nk_noTx _
    refine ⟨xs, ys, d, rp, hd, hz, nd, ntx, fun his => ⟨o', es, ep, h1, h2, h3, ?_, his, ?_⟩⟩
    · rw [h4]
      exact List.map_congr_left fun z hz => by
        show ent0 z = ⟨z.1.hash X.w, _, _⟩
        unfold ent0
        rw [hash0_eq X.w z.1 (ntx z hz)]
    · have : ∀ {l : List (NestedKey × Addr × V)} {r : List (NestedKey × Addr × Value)}, Paired RawP l r → l.map (·.1) = r.map (·.1) := by
        intro l r p
        induction p with
        | nil => rfl
        | cons r t ih => simp [r.1, ih]
      rw [← this rp]; exact nd
/-- its keys are keys now -/
theorem keys_are (I : Inv X pins σ H s) (sub : Sub G H) {xs : List (NestedKey × Addr × V)} {ys : List (NestedKey × Addr × Value)} : ∀ {kvs : List (PyData × PyData)}, Paired (KeyT X.K G) xs kvs → Paired RawP xs ys → ∀ z ∈ ys, (nestedKind X.prog X.w).is s.heap z.1 z.2.1 := by
  induction xs generalizing ys with
  | nil => intro kvs p q z hz; cases q; cases hz
  | cons x xs ih =>
    intro kvs p q z hz
    cases p with
    | cons r t =>
      cases q with
      | cons r' t' =>
        rcases List.mem_cons.mp hz with rfl | hz
        · obtain ⟨k1, k2, k3, _⟩ := r
          obtain ⟨e1, e2, _⟩ := r'
          obtain ⟨p1, p2, _⟩ := tup_plain k2
          obtain ⟨as, rd⟩ := Dp.reads I _ _ (.ref x.2.1) (dp_up sub k3) rfl
          rw [← e1, ← e2, k1]
          exact ⟨nk_is _ _ _ rd p1, by rw [nk_depth _ p1]; exact p2⟩
        · exact ih t t' z hz
theorem key_is (I : Inv X pins σ H s) (h : tupB k = true) (hy : Dp X.K H y k) (ry : RelV y u) : ∃ b, u = .ref b ∧ y = .ref b ∧ (nestedKind X.prog X.w).is s.heap (nk k) b := by
  obtain ⟨p1, p2, xs, rfl⟩ := tup_plain h
  obtain ⟨as, rd⟩ := Dp.reads I _ _ u hy ry
  have := nk_is _ _ _ rd p1
  cases hy with
  | tup h1 h2 =>
    cases ry
    exact ⟨_, rfl, rfl, this, by rw [nk_depth _ p1]; exact p2⟩
theorem atom_v {K : Frg} {H : Hp} {y : V} {e : L2.Key} (h : Dp K H y (keyD e)) : y = kV e := by
  cases e with
  | inl i => cases h; rfl
  | inr x => cases h; rfl
/-- the key found among the atoms -/
theorem atoms_get {K : Frg} {G : Hp} {es : List (L2.Key × V)} (d : Paired (fun (e : L2.Key × V) (p : PyData × PyData) => p.1 = keyD e.1 ∧ Dp K G e.2 p.2) es kvs) (e : L2.Key) :
    (valV es e = none ∧ dGet kvs (keyD e) = none) ∨ ∃ v x, valV es e = some v ∧ dGet kvs (keyD e) = some x ∧ Dp K G v x := by
  have := find_pair (f := fun kv : L2.Key × V => decide (kv.1 = e)) (g := fun p => PyData.eqv p.1 (keyD e)) (fun a b r => by rw [r.1, atom_eqv]) d
  unfold valV dGet
  rcases this with ⟨h1, h2⟩ | ⟨a, b, h1, h2, _, h3⟩
  · rw [h1, h2]; exact .inl ⟨rfl, rfl⟩
  · rw [h1, h2]; exact .inr ⟨_, _, rfl, rfl, h3⟩
theorem dHas_get (kvs : List (PyData × PyData)) (k : PyData) : dHas kvs k = (dGet kvs k).isSome := by
  unfold dHas dGet
  rw [Option.isSome_map]
  induction kvs with
  | nil => rfl
  | cons p r ih => rw [List.any_cons, List.find?_cons]; cases PyData.eqv p.1 k with
    | true => rfl
    | false => simpa using ih
/-- the key found among the tuples -/
theorem tups_get {K : Frg} {G : Hp} {xs : List (NestedKey × Addr × V)} {ys : List (NestedKey × Addr × Value)} (d : Paired (KeyT K G) xs kvs) (rp : Paired RawP xs ys) (h : tupB k = true) :
    (atKey ys (nk k) = none ∧ dGet kvs k = none) ∨ ∃ p v x, atKey ys (nk k) = some p ∧ RelV v p.2 ∧ dGet kvs k = some x ∧ Dp K G v x := by
  have f1 := find_pair (f := fun x : NestedKey × Addr × V => decide (x.1 = nk k)) (g := fun p => PyData.eqv p.1 k) (fun a b r => by rw [r.1, tup_eqv r.2.1 h]) d
  have f2 := find_pair (f := fun x : NestedKey × Addr × V => decide (x.1 = nk k)) (g := fun y : NestedKey × Addr × Value => decide (y.1 = nk k)) (fun a b r => by rw [r.1]) rp
  unfold atKey dGet
  rcases f1 with ⟨h1, h2⟩ | ⟨a, b, h1, h2, h3⟩
  · rcases f2 with ⟨k1, k2⟩ | ⟨c, e, k1, k2, k3⟩
    · rw [k2, h2]; exact .inl ⟨rfl, rfl⟩
    · rw [h1] at k1; cases k1
  · rcases f2 with ⟨k1, k2⟩ | ⟨c, e, k1, k2, k3⟩
    · rw [h1] at k1; cases k1
    · rw [h1] at k1; cases k1
      rw [h2, k2]
      exact .inr ⟨_, _, _, rfl, k3.2.2, rfl, h3.2.2.2⟩
theorem keyFits_atom (h : atomB k = true) (f : keyFits kvs k = true) : kvs.all (fun p => atomB p.1) = true := by
  simp only [keyFits, Bool.or_eq_true, Bool.and_eq_true] at f
  rcases f with ⟨_, f⟩ | ⟨f, _⟩
  · exact f
  · exact (atom_not_tup h f).elim
/-- a dict that serves an int or a text as key -/
theorem dct_atom {K : Frg} {G : Hp} {o : HO} (d : DctO K G a o kvs) (h : atomB k = true) (f : keyFits kvs k = true) : ∃ es : List (L2.Key × V), o = .dK es ∧ Paired (fun (e : L2.Key × V) (p : PyData × PyData) => p.1 = keyD e.1 ∧ Dp K G e.2 p.2) es kvs := by
  rcases d with d | ⟨xs, rfl, hn, d⟩
  · exact d
  · exfalso
    have := keyFits_atom h f
    cases d with
    | nil => exact hn rfl
    | cons r t =>
      simp only [List.all_cons, Bool.and_eq_true] at this
      exact atom_not_tup this.1 r.2.1
theorem keyFits_cases (f : keyFits kvs k = true) : atomB k = true ∨ tupB k = true := by
  simp only [keyFits, Bool.or_eq_true, Bool.and_eq_true] at f
  rcases f with ⟨f, _⟩ | ⟨f, _⟩
  · exact .inl f
  · exact .inr f
/-- k in d -/
theorem x_in {Q : Value → Shared → Prop} (hu : A.units + 20 < cLine) (I : Inv X pins σ H s) (sub : Sub G H) {o : HO} (e : H a = some o) (d : DctO X.K G a o kvs) (f : keyFits kvs k = true) (hy : Dp X.K H y k) (ry : RelV y u)
    (h : ∀ s', Inv X pins σ H s' → Q (.bool (dHas kvs k)) s') : wpAny (model X.prog X.w) A (compareOp .In u (.ref a)) Q E s := by
  rw [dHas_get] at h
  rcases keyFits_cases f with fk | fk
  · obtain ⟨es, rfl, d'⟩ := dct_atom d fk f
    obtain ⟨e', rfl⟩ := atom_key fk
    rw [atom_v hy] at ry
    refine d_in (by omega) I (DGet.k e) ry fun s' I' => ?_
    rcases atoms_get d' e' with ⟨h1, h2⟩ | ⟨v, x, h1, h2, _⟩
    · rw [h1]; rw [h2] at h; exact h _ I'
    · rw [h1]; rw [h2] at h; exact h _ I'
  · obtain ⟨xs, ys, d1, d2, hd, _, _, _, dd⟩ := dct_tup I e d fk f
    obtain ⟨b, rfl, _, ki⟩ := key_is I fk hy ry
    refine wpAny_in_heap (knd := nestedKind X.prog X.w) (show A.in1.units + 8 < cLine from by have : A.in1.units = A.units + 1 := rfl; omega) ki hd (dd (keys_are I sub d1 d2)) ?_
    rcases tups_get d1 d2 fk with ⟨h1, h2⟩ | ⟨p, v, x, h1, _, h2, _⟩
    · rw [h1]; rw [h2] at h; exact h _ (I.tok _)
    · rw [h1]; rw [h2] at h; exact h _ (I.tok _)
theorem x_notIn {Q : Value → Shared → Prop} (hu : A.units + 20 < cLine) (I : Inv X pins σ H s) (sub : Sub G H) {o : HO} (e : H a = some o) (d : DctO X.K G a o kvs) (f : keyFits kvs k = true) (hy : Dp X.K H y k) (ry : RelV y u)
    (h : ∀ s', Inv X pins σ H s' → Q (.bool (!dHas kvs k)) s') : wpAny (model X.prog X.w) A (compareOp .NotIn u (.ref a)) Q E s := by
  rw [dHas_get] at h
  rcases keyFits_cases f with fk | fk
  · obtain ⟨es, rfl, d'⟩ := dct_atom d fk f
    obtain ⟨e', rfl⟩ := atom_key fk
    rw [atom_v hy] at ry
    refine d_notIn (by omega) I (DGet.k e) ry fun s' I' => ?_
    rcases atoms_get d' e' with ⟨h1, h2⟩ | ⟨v, x, h1, h2, _⟩
    · rw [h1]; rw [h2] at h; exact h _ I'
    · rw [h1]; rw [h2] at h; exact h _ I'
  · obtain ⟨xs, ys, d1, d2, hd, _, _, _, dd⟩ := dct_tup I e d fk f
    obtain ⟨b, rfl, _, ki⟩ := key_is I fk hy ry
    refine wpAny_notIn_heap (knd := nestedKind X.prog X.w) (show A.in1.units + 8 < cLine from by have : A.in1.units = A.units + 1 := rfl; omega) ki hd (dd (keys_are I sub d1 d2)) ?_
    rcases tups_get d1 d2 fk with ⟨h1, h2⟩ | ⟨p, v, x, h1, _, h2, _⟩
    · rw [h1]; rw [h2] at h; exact h _ (I.tok _)
    · rw [h1]; rw [h2] at h; exact h _ (I.tok _)
/-- d[k], there -/
theorem x_get {Q : Value → Shared → Prop} {x : PyData} (hu : A.units + 20 < cLine) (I : Inv X pins σ H s) (sub : Sub G H) {o : HO} (e : H a = some o) (d : DctO X.K G a o kvs) (f : keyFits kvs k = true) (hy : Dp X.K H y k) (ry : RelV y u) (hx : dGet kvs k = some x)
    (h : ∀ w v s', Inv X pins σ H s' → RelV v w → Dp X.K G v x → Q w s') : wpAny (model X.prog X.w) A (getItem (.ref a) u) Q E s := by
  rcases keyFits_cases f with fk | fk
  · obtain ⟨es, rfl, d'⟩ := dct_atom d fk f
    obtain ⟨e', rfl⟩ := atom_key fk
    rw [atom_v hy] at ry
    rcases atoms_get d' e' with ⟨h1, h2⟩ | ⟨v, x', h1, h2, h3⟩
    · rw [h2] at hx; cases hx
    · rw [h2] at hx; cases hx
      exact d_getItem (v := v) (by omega) I (by have := DGet.k (k := e') e; rw [h1] at this; exact this) ry fun w s' I' rw' => h w v s' I' rw' h3
  · obtain ⟨xs, ys, d1, d2, hd, _, _, _, dd⟩ := dct_tup I e d fk f
    obtain ⟨b, rfl, _, ki⟩ := key_is I fk hy ry
    rcases tups_get d1 d2 fk with ⟨h1, h2⟩ | ⟨p, v, x', h1, hr, h2, h3⟩
    · rw [h2] at hx; cases hx
    · rw [h2] at hx; cases hx
      exact wpAny_getItem_heap (knd := nestedKind X.prog X.w) (show A.in1.units + 8 < cLine from by have : A.in1.units = A.units + 1 := rfl; omega) ki (dd (keys_are I sub d1 d2)) h1 (h _ v _ (I.tok _) hr h3)
theorem raw_noTx {K : Frg} {G : Hp} : ∀ {xs : List (NestedKey × Addr × V)} {ys : List (NestedKey × Addr × Value)} {kvs : List (PyData × PyData)}, Paired (KeyT K G) xs kvs → Paired RawP xs ys → ∀ z ∈ ys, noTx z.1 = true
  | _, _, _, .nil, .nil, z, hz => by cases hz
  | _, _, _, .cons r t, .cons r' t', z, hz => by
    rcases List.mem_cons.mp hz with rfl | hz
    · rw [← r'.1, r.1]; exact nk_noTx _
    · exact raw_noTx t t' z hz
theorem raw_keys : ∀ {xs : List (NestedKey × Addr × V)} {ys : List (NestedKey × Addr × Value)}, Paired RawP xs ys → xs.map (·.1) = ys.map (·.1)
  | _, _, .nil => rfl
  | _, _, .cons r t => by simp [r.1, raw_keys t]
def putX (xs : List (NestedKey × Addr × V)) (kk : NestedKey) (b : Addr) (v : V) : List (NestedKey × Addr × V) :=
  if (xs.any fun x => decide (x.1 = kk)) = true then xs.map (fun x => if x.1 = kk then (x.1, x.2.1, v) else x) else xs ++ [(kk, b, v)]
theorem putX_len (xs : List (NestedKey × Addr × V)) (kk : NestedKey) (b : Addr) (v : V) : (putX xs kk b v).length ≤ xs.length + 1 := by
  unfold putX; split <;> simp
theorem putX_ne (xs : List (NestedKey × Addr × V)) (kk : NestedKey) (b : Addr) (v : V) : putX xs kk b v ≠ [] := by
  unfold putX
  split
  · rename_i h
    cases xs with
    | nil => simp at h
    | cons _ _ => simp
  · simp
theorem atKey_any (kk : NestedKey) : ∀ ys : List (NestedKey × Addr × Value), (atKey ys kk).isSome = ys.any fun y => decide (y.1 = kk)
  | [] => rfl
  | y :: ys => by
    have ih := atKey_any kk ys
    unfold atKey at ih ⊢
    rw [List.find?_cons, List.any_cons]
    cases decide (y.1 = kk) with
    | true => rfl
    | false => simpa using ih
theorem put_raw {xs : List (NestedKey × Addr × V)} {ys : List (NestedKey × Addr × Value)} (rp : Paired RawP xs ys) (kk : NestedKey) (b : Addr) {v : V} {r : Value} (rv : RelV v r) : Paired RawP (putX xs kk b v) (storedH ys kk b r) := by
  have e := any_pair (f := fun x : NestedKey × Addr × V => decide (x.1 = kk)) (g := fun y : NestedKey × Addr × Value => decide (y.1 = kk)) (fun a b r => by rw [r.1]) rp
  unfold putX storedH
  rw [atKey_any, e]
  split
  · exact map_pair (fun x y q => by
      unfold putAt
      rw [← q.1]
      split
      · exact ⟨rfl, q.2.1, rv⟩
      · exact q) rp
  · exact snoc_pair (R := RawP) ⟨rfl, rfl, rv⟩ rp
theorem put_tups {K : Frg} {G : Hp} {xs : List (NestedKey × Addr × V)} (d : Paired (KeyT K G) xs kvs) (h : tupB k = true) {b : Addr} (hy : Dp K G (.ref b) k) {v : V} {x : PyData} (hv : Dp K G v x) : Paired (KeyT K G) (putX xs (nk k) b v) (dPut kvs k x) := by
  have e := any_pair (f := fun x : NestedKey × Addr × V => decide (x.1 = nk k)) (g := fun p : PyData × PyData => PyData.eqv p.1 k) (fun a b r => by rw [r.1, tup_eqv r.2.1 h]) d
  unfold putX dPut dHas
  rw [e]
  split
  · exact map_pair (fun x y q => by
      rw [tup_eqv q.2.1 h, ← q.1]
      by_cases c : x.1 = nk k
      · rw [if_pos c, if_pos (by simp [c])]; exact ⟨q.1, q.2.1, q.2.2.1, hv⟩
      · rw [if_neg c, if_neg (by simp [c])]; exact q) d
  · exact snoc_pair (R := KeyT K G) ⟨rfl, h, hy, hv⟩ d
theorem put_atoms {K : Frg} {G : Hp} {es : List (L2.Key × V)} (d : Paired (fun (e : L2.Key × V) (p : PyData × PyData) => p.1 = keyD e.1 ∧ Dp K G e.2 p.2) es kvs) (e : L2.Key) {v : V} {x : PyData} (hv : Dp K G v x) :
    Paired (fun (e : L2.Key × V) (p : PyData × PyData) => p.1 = keyD e.1 ∧ Dp K G e.2 p.2) (putK es e v) (dPut kvs (keyD e) x) := by
  have q := any_pair (f := fun kv : L2.Key × V => decide (kv.1 = e)) (g := fun p : PyData × PyData => PyData.eqv p.1 (keyD e)) (fun a b r => by rw [r.1, atom_eqv]) d
  unfold putK dPut dHas
  rw [q]
  split
  · exact map_pair (fun a b q => by
      rw [q.1, atom_eqv]
      by_cases c : a.1 = e
      · rw [if_pos c, if_pos (by simp [c])]; exact ⟨rfl, hv⟩
      · rw [if_neg c, if_neg (by simp [c])]; exact q) d
  · exact snoc_pair (R := fun (e : L2.Key × V) (p : PyData × PyData) => p.1 = keyD e.1 ∧ Dp K G e.2 p.2) ⟨rfl, hv⟩ d
theorem dct_mut {K : Frg} {G : Hp} {o : HO} (d : DctO K G a o kvs) (e : H a = some o) : Mut (H a) := by
  rcases d with ⟨es, rfl, _⟩ | ⟨xs, rfl, _⟩ <;> (rw [e]; exact True.intro)
theorem dct_len {K : Frg} {G : Hp} {xs : List (NestedKey × Addr × V)} (d : Paired (KeyT K G) xs kvs) : xs.length = kvs.length := Paired.length d
/-- the object of a dict that was written -/
theorem raw_new {P : Program} {w : World} {H' : Hp} {h' : Heap} {xs : List (NestedKey × Addr × V)} {ys : List (NestedKey × Addr × Value)} (hd : (a == sysModules) = false) (hz : xs.length ≤ sizeLine) (rp : Paired RawP xs ys) (nt : ∀ z ∈ ys, noTx z.1 = true) (m : h'.DictOfH (nestedKind P w) a ys) : ObjOk P w H' h' a (RawO a xs) := by
  obtain ⟨o, es, ep, h1, h2, h3, h4, _, h6⟩ := m
  refine ⟨⟨hd, hz, by rw [raw_keys rp]; exact h6, ys, rp, o, es, ep, h1, h2, h3, ?_⟩, ⟨o, h1⟩, fun _ _ ⟨z1, z2, z3, ys', z4, o', es', ep', z5, z6⟩ kk => ⟨z1, z2, z3, ys', z4, o', es', ep', kk _ z5, z6⟩⟩
  rw [h4]
  exact List.map_congr_left fun z hz => by
    show (⟨z.1.hash w, _, _⟩ : DictEntry) = ent0 z
    unfold ent0
    rw [hash0_eq w z.1 (nt z hz)]
/-- d[k] = v -/
theorem x_put {Q : Unit → Shared → Prop} {x : PyData} {v : V} {r : Value} (hu : A.units + 20 < cLine) (I : Inv X pins σ H s) (sub : Sub G H) {o : HO} (e : H a = some o) (d : DctO X.K G a o kvs) (f : keyFits kvs k = true) (hl : kvs.length < sizeLine) (hy : Dp X.K G y k) (ry : RelV y u) (hv : Dp X.K G v x) (rv : RelV v r)
    (h : ∀ o' s', DctO X.K G a o' (dPut kvs k x) → Inv X pins σ (upd H a o') s' → Q () s') : wpAny (model X.prog X.w) A (setItem (.ref a) u r) Q E s := by
  rcases keyFits_cases f with fk | fk
  · obtain ⟨es, rfl, d'⟩ := dct_atom d fk f
    obtain ⟨e', rfl⟩ := atom_key fk
    rw [atom_v hy] at ry
    exact d_setItem (by omega) I (DPut.k (v := v) e (by rw [Paired.length d']; exact hl)) ry rv fun s' I' => h _ s' (.inl ⟨_, rfl, put_atoms d' e' hv⟩) I'
  · obtain ⟨xs, ys, d1, d2, hd, hz, _, nt, dd⟩ := dct_tup I e d fk f
    obtain ⟨b, rfl, rfl, ki⟩ := key_is I fk (dp_up sub hy) ry
    have hx : xs.length < sizeLine := by rw [dct_len d1]; exact hl
    refine wpAny_setItem_heap (knd := nestedKind X.prog X.w) (hsz := by rw [← Paired.length d2]; exact hz) (show A.in1.units + 8 < cLine from by have : A.in1.units = A.units + 1 := rfl; omega) ki (dd (keys_are I sub d1 d2)) fun h' dd' hs => ?_
    have r1 := put_tups d1 fk hy hv
    have r2 := put_raw d2 (nk k) b rv
    refine h (RawO a (putX xs (nk k) b v)) _ (.inr ⟨_, rfl, putX_ne _ _ _ _, r1⟩) (d_write I (dct_mut d e) hs ?_ (raw_new hd (by have := putX_len xs (nk k) b v; omega) r2 (raw_noTx r1 r2) dd'))
    obtain ⟨q, _, _, hq, _⟩ := dd'
    exact ⟨q, hq⟩
/-- d[k] = v by a comprehension -/
theorem x_dictSet {Q : Unit → Shared → Prop} {x : PyData} {v : V} {r : Value} (hu : A.units + 20 < cLine) (I : Inv X pins σ H s) (sub : Sub G H) {o : HO} (e : H a = some o) (d : DctO X.K G a o kvs) (f : keyFits kvs k = true) (hl : kvs.length < sizeLine) (hy : Dp X.K G y k) (ry : RelV y u) (hv : Dp X.K G v x) (rv : RelV v r)
    (h : ∀ o' s', DctO X.K G a o' (dPut kvs k x) → Inv X pins σ (upd H a o') s' → Q () s') : wpAny (model X.prog X.w) A (dictSet a u r) Q E s := by
  rcases keyFits_cases f with fk | fk
  · obtain ⟨es, rfl, d'⟩ := dct_atom d fk f
    obtain ⟨e', rfl⟩ := atom_key fk
    rw [atom_v hy] at ry
    obtain ⟨z, hd, vs, rel, dd⟩ := dk_of I.hok e
    have hll : es.length < sizeLine := by rw [Paired.length d']; exact hl
    have hlp : (putK es e' v).length ≤ sizeLine := by have := length_putK es e' v; omega
    refine wpAny_dictSet_pairs (hsz := by rw [← rel.length]; exact z) (kV_is ry) dd fun h' dd' hs => h (.dK (putK es e' v)) _ (.inl ⟨_, rfl, put_atoms d' e' hv⟩) ?_
    exact d_write I (by rw [e]; exact True.intro) hs (let ⟨q, _, _, hq, _⟩ := dd'; ⟨q, hq⟩) (dk_new hlp hd (rel.put e' rv) dd')
  · obtain ⟨xs, ys, d1, d2, hd, hz, _, nt, dd⟩ := dct_tup I e d fk f
    obtain ⟨b, rfl, rfl, ki⟩ := key_is I fk (dp_up sub hy) ry
    have hx : xs.length < sizeLine := by rw [dct_len d1]; exact hl
    refine wpAny_dictSet_heap (knd := nestedKind X.prog X.w) (hsz := by rw [← Paired.length d2]; exact hz) (show A.units + 8 < cLine from by omega) ki (dd (keys_are I sub d1 d2)) fun h' dd' hs => ?_
    have r1 := put_tups d1 fk hy hv
    have r2 := put_raw d2 (nk k) b rv
    refine h (RawO a (putX xs (nk k) b v)) _ (.inr ⟨_, rfl, putX_ne _ _ _ _, r1⟩) (d_write I (dct_mut d e) hs ?_ (raw_new hd (by have := putX_len xs (nk k) b v; omega) r2 (raw_noTx r1 r2) dd'))
    obtain ⟨q, _, _, hq, _⟩ := dd'
    exact ⟨q, hq⟩
end
end Ev

set_option Elab.async false
set_option linter.all false
set_option maxRecDepth 100000
/-! The built-in functions on data. -/
namespace Ev
open PySem PySem.Spec PyProof.Rows L2

inductive RdVs (K : Frg) (G H : Hp) : List V → List PyData → Prop
  | nil : RdVs K G H [] []
  | cons {v : V} {d : PyData} {vs : List V} {ds : List PyData} : RdV K G H v d → RdVs K G H vs ds → RdVs K G H (v :: vs) (d :: ds)
theorem RdVs.one {K : Frg} {G H : Hp} {vs : List V} {d : PyData} (h : RdVs K G H vs [d]) : ∃ v, vs = [v] ∧ RdV K G H v d := by
  cases h with
  | cons a b => cases b; exact ⟨_, rfl, a⟩
theorem RdVs.two {K : Frg} {G H : Hp} {vs : List V} {d e : PyData} (h : RdVs K G H vs [d, e]) : ∃ v w, vs = [v, w] ∧ RdV K G H v d ∧ RdV K G H w e := by
  cases h with
  | cons a b =>
    cases b with
    | cons b c => cases c; exact ⟨_, _, rfl, a, b⟩

def Blt.py : Blt → Str
  | .len => "len" | .abs => "abs" | .int => "int" | .max2 => "max" | .min2 => "min" | .all => "all" | .any => "any" | .sum => "sum" | .tuple => "tuple" | .list => "list" | .repr => "repr" | .sorted => "sorted"
/-- a type (true) or a function -/
def Blt.isTy : Blt → Bool
  | .int => true | .tuple => true | .list => true | _ => false
def Blt.id : Blt → String
  | .len => "len" | .abs => "abs" | .int => "int" | .max2 => "max" | .min2 => "min" | .all => "all" | .any => "any" | .sum => "sum" | .tuple => "tuple" | .list => "list" | .repr => "repr" | .sorted => "sorted"
def Blt.val (f : Blt) : Value := if f.isTy then .type f.id else .builtin f.id
theorem Blt.boot (f : Blt) : bootBuiltins f.py = some f.val := by cases f <;> decide +kernel

theorem bools_up {K : Frg} {G : Hp} : ∀ {xs : List PyData} {bs : List Bool} {vs : List V}, boolsOf xs = some bs → DpAll K G vs xs → vs = bs.map V.bl
  | [], _, _, e, h => by cases h; cases e; rfl
  | x :: xs, bs, _, e, h => by
    cases h with
    | cons h1 h2 =>
      cases x <;> simp [boolsOf] at e
      obtain ⟨r, e1, rfl⟩ := e
      cases h1
      rw [bools_up e1 h2]; rfl
theorem ints_up {K : Frg} {G : Hp} : ∀ {xs : List PyData} {bs : List Int} {vs : List V}, intsOf xs = some bs → DpAll K G vs xs → vs = bs.map V.int
  | [], _, _, e, h => by cases h; cases e; rfl
  | x :: xs, bs, _, e, h => by
    cases h with
    | cons h1 h2 =>
      cases x <;> simp [intsOf] at e
      obtain ⟨r, e1, rfl⟩ := e
      cases h1
      rw [ints_up e1 h2]; rfl

theorem each_of {K : Frg} {G : Hp} : ∀ {xs : List PyData} {vs : List V} {us : List Value}, Vals vs us → DpAll K G vs xs → PySem.W.EachIs (fun u d => ∃ v, RelV v u ∧ Dp K G v d) us xs
  | [], _, _, r, h => by cases h; cases r; exact .nil
  | x :: xs, _, _, r, h => by
    cases h with
    | cons h1 h2 =>
      cases r with
      | cons r1 r2 => exact .cons ⟨_, r1, h1⟩ (each_of r2 h2)
theorem of_each {K : Frg} {G : Hp} : ∀ {xs : List PyData} {us : List Value}, PySem.W.EachIs (fun u d => ∃ v, RelV v u ∧ Dp K G v d) us xs → ∃ vs, Vals vs us ∧ DpAll K G vs xs
  | _, _, .nil => ⟨[], .nil, .nil⟩
  | _, _, .cons ⟨v, r, h⟩ t => by
    obtain ⟨vs, r2, h2⟩ := of_each t
    exact ⟨v :: vs, .cons r r2, .cons h h2⟩

def rBlt (K : Frg) (f : Blt) : List V → Hp → VK → Prop := fun vs H Q => ∃ G ds ev, Sub G H ∧ RdVs K G H vs ds ∧ bltD f ds = some ev ∧ Give K G H ev Q
section
variable {X : Cx}
theorem rd_lst {K : Frg} {G H : Hp} {vs : List V} {xs : List PyData} (h : RdVs K G H vs [.list xs]) (s : Sub G H) : ∃ a ws, vs = [.ref a] ∧ SqL K H a ws ∧ DpAll K G ws xs := by
  obtain ⟨v, rfl, k⟩ := h.one
  obtain ⟨a, ws, rfl, h1, h2⟩ := k.lst s
  exact ⟨a, ws, rfl, h1, h2⟩
theorem rd_tup {K : Frg} {G H : Hp} {vs : List V} {xs : List PyData} (h : RdVs K G H vs [.tuple xs]) (s : Sub G H) : ∃ a ws, vs = [.ref a] ∧ SqT K H a ws ∧ DpAll K G ws xs ∧ Dp K G (.ref a) (.tuple xs) := by
  obtain ⟨v, rfl, k⟩ := h.one
  obtain ⟨a, ws, rfl, h1, h2, h3⟩ := k.tup s
  exact ⟨a, ws, rfl, h1, h2, h3⟩
theorem rd_int {K : Frg} {G H : Hp} {vs : List V} {i : Int} (h : RdVs K G H vs [.int i]) : vs = [.int i] := by
  obtain ⟨v, rfl, k⟩ := h.one
  rw [k.int]
theorem rd_int2 {K : Frg} {G H : Hp} {vs : List V} {i j : Int} (h : RdVs K G H vs [.int i, .int j]) : vs = [.int i, .int j] := by
  obtain ⟨v, w, rfl, k, k'⟩ := h.two
  rw [k.int, k'.int]
theorem cr_len : CallR X (.builtin "len") (rBlt X.K .len) := by
  intro pins s σ H xs us Q I r h
  obtain ⟨G, ds, ev, sub, hx, he, g⟩ := h
  simp only [bltD, lenD] at he
  split at he
  · split at he <;> cases he
    obtain ⟨a, ws, rfl, h1, h2⟩ := rd_lst hx sub
    refine call_len pins s σ H _ us Q I r ⟨_, _, rfl, .inl ⟨ws, h1, rfl⟩, ?_⟩
    rw [dps_len h2]
    exact g.now sub (.int _)
  · split at he <;> cases he
    obtain ⟨a, ws, rfl, h1, h2, _⟩ := rd_tup hx sub
    refine call_len pins s σ H _ us Q I r ⟨_, _, rfl, .inr ⟨ws, h1, rfl⟩, ?_⟩
    rw [dps_len h2]
    exact g.now sub (.int _)
  · split at he <;> cases he
    obtain ⟨v, rfl, h⟩ := hx.one
    cases h.str
    rename_i hz
    exact call_len pins s σ H _ us Q I r ⟨_, _, rfl, ⟨hz, rfl⟩, g.now sub (.int _)⟩
  · cases he
theorem cr_abs : CallR X (.builtin "abs") (rBlt X.K .abs) := by
  intro pins s σ H xs us Q I r h
  obtain ⟨G, ds, ev, sub, hx, he, g⟩ := h
  simp only [bltD, absD] at he
  split at he <;> cases he
  cases rd_int hx
  exact call_abs pins s σ H _ us Q I r ⟨_, rfl, g.now sub (.int _)⟩
theorem cr_int : CallR X (.type "int") (rBlt X.K .int) := by
  intro pins s σ H xs us Q I r h
  obtain ⟨G, ds, ev, sub, hx, he, g⟩ := h
  simp only [bltD, intD] at he
  split at he <;> cases he
  · cases rd_int hx
    exact call_int1 pins s σ H _ us Q I r (.inl ⟨_, rfl, g.now sub (.int _)⟩)
  · obtain ⟨v, rfl, h⟩ := hx.one
    cases h.bl
    exact call_int1 pins s σ H _ us Q I r (.inr ⟨_, rfl, g.now sub (.int _)⟩)
theorem mxOk_spec {xs ys : List PyData} (hk : mxOk (.tuple xs) (.tuple ys) = true) : PySem.W.AlikeAll [.tuple xs, .tuple ys] ∧ PyData.depthAll [.tuple xs, .tuple ys] ≤ 60 := by
  simp only [mxOk, Bool.and_eq_true, decide_eq_true_eq] at hk
  obtain ⟨⟨⟨⟨h1, h2⟩, h3⟩, h4⟩, h5⟩ := hk
  refine ⟨⟨fun x hx y hy => ?_, fun x hx => ?_⟩, h5⟩
  · rcases List.mem_cons.mp hx with rfl | hx <;> rcases List.mem_cons.mp hy with rfl | hy
    · exact h1
    · rw [List.mem_singleton.mp hy]; exact h2
    · rw [List.mem_singleton.mp hx]; exact h3
    · rw [List.mem_singleton.mp hx, List.mem_singleton.mp hy]; exact h4
  · rcases List.mem_cons.mp hx with rfl | hx
    · intro z; cases z
    · rw [List.mem_singleton.mp hx]; intro z; cases z
theorem cr_max2 (hc : X.calm = true) (hu : X.A.units + 100 < cLine) : CallR X (.builtin "max") (rBlt X.K .max2) := by
  intro pins s σ H xs us Q I r h
  obtain ⟨G, ds, ev, sub, hx, he, g⟩ := h
  simp only [bltD, maxD] at he
  split at he
  · cases he
    cases rd_int2 hx
    exact call_max2 hc pins s σ H _ us Q I r ⟨_, _, rfl, g.now sub (.int _)⟩
  · split at he
    · rename_i ys zs hk
      cases he
      obtain ⟨x, y, rfl, k, k'⟩ := hx.two
      obtain ⟨u, w', rfl, r1, r2⟩ := vals2 r
      obtain ⟨as, e1⟩ := Dp.reads I _ x u (k.dp sub) r1
      obtain ⟨bs, e2⟩ := Dp.reads I _ y w' (k'.dp sub) r2
      obtain ⟨al, dp⟩ := mxOk_spec hk
      refine max_two_data (I.ok.hd hc) e1 e2 al (by omega) fun h' tk kp => ⟨if PySem.W.dataLt (.tuple ys) (.tuple zs) then y else x, H, I.kept kp, ?_, ?_⟩
      · split
        · exact r2
        · exact r1
      · obtain ⟨_, _, rfl, _, _, d1⟩ := k.tup sub
        obtain ⟨_, _, rfl, _, _, d2⟩ := k'.tup sub
        exact g.now sub (by split <;> assumption)
    · cases he
  · cases he
theorem cr_min2 (hc : X.calm = true) (hu : X.A.units + 100 < cLine) : CallR X (.builtin "min") (rBlt X.K .min2) := by
  intro pins s σ H xs us Q I r h
  obtain ⟨G, ds, ev, sub, hx, he, g⟩ := h
  simp only [bltD, minD] at he
  split at he
  · cases he
    cases rd_int2 hx
    exact call_min2 hc pins s σ H _ us Q I r ⟨_, _, rfl, g.now sub (.int _)⟩
  · split at he
    · rename_i ys zs hk
      cases he
      obtain ⟨x, y, rfl, k, k'⟩ := hx.two
      obtain ⟨u, w', rfl, r1, r2⟩ := vals2 r
      obtain ⟨as, e1⟩ := Dp.reads I _ x u (k.dp sub) r1
      obtain ⟨bs, e2⟩ := Dp.reads I _ y w' (k'.dp sub) r2
      obtain ⟨al, dp⟩ := mxOk_spec hk
      refine min_two_data (I.ok.hd hc) e1 e2 al (by omega) fun h' tk kp => ⟨if PySem.W.dataLt (.tuple zs) (.tuple ys) then y else x, H, I.kept kp, ?_, ?_⟩
      · split
        · exact r2
        · exact r1
      · obtain ⟨_, _, rfl, _, _, d1⟩ := k.tup sub
        obtain ⟨_, _, rfl, _, _, d2⟩ := k'.tup sub
        exact g.now sub (by split <;> assumption)
    · cases he
  · cases he
theorem map_some {α β : Type} {o : Option α} {f : α → β} {b : β} (h : o.map f = some b) : ∃ a, o = some a ∧ f a = b := by
  cases o with
  | none => cases h
  | some a => exact ⟨a, rfl, Option.some.inj h⟩
theorem cr_all' (hc : X.calm = true) : CallR X (.builtin "all") (rBlt X.K .all) := by
  intro pins s σ H xs us Q I r h
  obtain ⟨G, ds, ev, sub, hx, he, g⟩ := h
  simp only [bltD, allD] at he
  split at he
  · obtain ⟨bs, e1, rfl⟩ := map_some he
    obtain ⟨a, ws, rfl, h1, h2⟩ := rd_lst hx sub
    cases bools_up e1 h2
    exact cr_all hc pins s σ H _ us Q I r ⟨a, bs, rfl, h1, g.now sub (.bl _)⟩
  · cases he
theorem cr_any' (hc : X.calm = true) : CallR X (.builtin "any") (rBlt X.K .any) := by
  intro pins s σ H xs us Q I r h
  obtain ⟨G, ds, ev, sub, hx, he, g⟩ := h
  simp only [bltD, anyD] at he
  split at he
  · obtain ⟨bs, e1, rfl⟩ := map_some he
    obtain ⟨a, ws, rfl, h1, h2⟩ := rd_lst hx sub
    cases bools_up e1 h2
    exact cr_any hc pins s σ H _ us Q I r ⟨a, bs, rfl, h1, g.now sub (.bl _)⟩
  · cases he
theorem cr_sum' (hc : X.calm = true) : CallR X (.builtin "sum") (rBlt X.K .sum) := by
  intro pins s σ H xs us Q I r h
  obtain ⟨G, ds, ev, sub, hx, he, g⟩ := h
  simp only [bltD, sumD] at he
  split at he
  · obtain ⟨bs, e1, rfl⟩ := map_some he
    obtain ⟨a, ws, rfl, h1, h2⟩ := rd_lst hx sub
    cases ints_up e1 h2
    exact cr_sum hc pins s σ H _ us Q I r ⟨a, bs, rfl, h1, g.now sub (.int _)⟩
  · cases he
theorem cr_tuple : CallR X (.type "tuple") (rBlt X.K .tuple) := by
  intro pins s σ H xs us Q I r h
  obtain ⟨G, ds, ev, sub, hx, he, g⟩ := h
  simp only [bltD, tupleD] at he
  split at he <;> cases he
  · obtain ⟨a, ws, rfl, h1, h2⟩ := rd_lst hx sub
    exact call_tuple_of pins s σ H _ us Q I r ⟨a, ws, rfl, .inl ⟨h1, fun p hp => g.tup sub h2 hp⟩⟩
  · obtain ⟨a, ws, rfl, h1, h2, h3⟩ := rd_tup hx sub
    exact call_tuple_of pins s σ H _ us Q I r ⟨a, ws, rfl, .inr ⟨h1, g.now sub h3⟩⟩
theorem cr_list : CallR X (.type "list") (rBlt X.K .list) := by
  intro pins s σ H xs us Q I r h
  obtain ⟨G, ds, ev, sub, hx, he, g⟩ := h
  simp only [bltD, listD] at he
  split at he <;> cases he
  · obtain ⟨a, ws, rfl, h1, h2⟩ := rd_lst hx sub
    exact call_list_of pins s σ H _ us Q I r ⟨a, ws, rfl, .inl h1, fun p hp => g.lst sub h2 hp⟩
  · obtain ⟨a, ws, rfl, h1, h2, h3⟩ := rd_tup hx sub
    exact call_list_of pins s σ H _ us Q I r ⟨a, ws, rfl, .inr h1, fun p hp => g.lst sub h2 hp⟩
theorem cr_repr (hg : X.A.guards = some []) (hu : X.A.units + 100 < cLine) : CallR X (.builtin "repr") (rBlt X.K .repr) := by
  intro pins s σ H xs us Q I r h
  obtain ⟨G, ds, ev, sub, hx, he, g⟩ := h
  simp only [bltD, reprD] at he
  split at he
  · split at he <;> cases he
    rename_i d hd
    simp only [Bool.and_eq_true, Bool.not_eq_true', decide_eq_true_eq] at hd
    obtain ⟨⟨h1, h3⟩, h4⟩ := hd
    obtain ⟨v, rfl, h⟩ := hx.one
    obtain ⟨u, rfl, rv⟩ := vals1 r
    have q : Q (.str d.shown) H := g.now sub (.str _)
    obtain ⟨as, rd⟩ := Dp.reads I d v u (h.dp sub) rv
    have hh := h.dp sub
    cases hh with
    | non => cases rv; exact PySem.P.repr_of_none ⟨.str _, H, I.tok _, ⟨_, rfl⟩, q⟩
    | bl b => cases rv; exact PySem.P.repr_of_bool ⟨.str _, H, I.tok _, ⟨_, rfl⟩, q⟩
    | int i =>
      obtain ⟨t, rfl⟩ := rv
      have hi : i.natAbs.log2 < 1920 := by simpa [PyData.showable] using h1
      exact PySem.P.repr_of_int hi ⟨.str _, H, I.tok _, ⟨_, rfl⟩, q⟩
    | str x =>
      obtain ⟨t, rfl⟩ := rv
      exact PySem.P.repr_of_str ⟨.str _, H, I.tok _, ⟨_, rfl⟩, q⟩ h4
    | lst a b =>
      cases rv
      exact repr_dp I (.lst a b) h1 hg (by omega) (fun h' u tk k => ⟨.str _, H, I.kept k, ⟨_, rfl⟩, q⟩) h4
    | tup a b =>
      cases rv
      exact repr_dp I (.tup a b) h1 hg (by omega) (fun h' u tk k => ⟨.str _, H, I.kept k, ⟨_, rfl⟩, q⟩) h4
    | dic a =>
      cases rv
      exact repr_dp I (.dic a) h1 hg (by omega) (fun h' u tk k => ⟨.str _, H, I.kept k, ⟨_, rfl⟩, q⟩) h4
  · cases he
theorem cr_sorted' (hu : X.A.units + 100 < cLine) : CallR X (.builtin "sorted") (rBlt X.K .sorted) := by
  intro pins s σ H xs us Q I r h
  obtain ⟨G, ds, ev, sub, hx, he, g⟩ := h
  simp only [bltD, sortedD] at he
  split at he
  · rename_i ys
    split at he <;> cases he
    rename_i hd
    simp only [canSort, Bool.and_eq_true, Bool.or_eq_true, decide_eq_true_eq, List.all_eq_true] at hd
    obtain ⟨⟨⟨h1, h2⟩, h3⟩, h4⟩ := hd
    obtain ⟨a, ws, rfl, k1, k2⟩ := rd_lst hx sub
    obtain ⟨u, rfl, rv⟩ := vals1 r
    cases rv
    obtain ⟨its, rs, pl, hz⟩ := I.list k1
    have E := each_of rs k2
    have er : PySem.W.EachIs (fun v b => ∃ as, Reads s.heap v (id b) as) its ys := E.mono fun u d ⟨v, r1, d1⟩ => Dp.reads I d v u (dp_up sub d1) r1
    have deep : ∀ b, b ∈ ys → X.A.units + 2 + (id b).depth < cLine := fun b hb => by
      have := h3 b hb
      show X.A.units + 2 + b.depth < cLine
      omega
    have fin : ∀ out, out.length = ys.length → PySem.W.EachIs (fun u d => ∃ v, RelV v u ∧ Dp X.K G v d) out (ys.mergeSort (PySem.W.dataLe false id)) → EP X pins σ Q (.ref (s.heap.objs.size + 1)) { s with heap := sortedAll s.heap its (List.toArray out) } := fun out ho eo => by
      obtain ⟨vs', r', d'⟩ := of_each eo
      obtain ⟨c, hc⟩ := sortedAll_at s.heap its out.toArray
      have hd : s.heap.objs.size ≤ s.heap.objs.size + 1 := Nat.le_succ _
      refine ⟨.ref _, upd H _ (.lst vs'), I.laid (t' := s.toks) (fun _ _ => sortedAll_old) hd ⟨?_, out, c, r', hc⟩, rfl, g.lst sub d' (I.hok.fresh hd)⟩
      rw [r'.length, ho]; exact h2
    have al : PySem.W.AllAlike (ys.map id) := by rw [List.map_id]; exact h1
    rcases h4 with h4 | h4
    · have ht : ∀ d, d ∈ ys.map id → ∃ xs, d = .tuple xs := fun d hd => by
        rw [List.map_id] at hd
        have z := h4 d hd
        split at z
        · exact ⟨_, rfl⟩
        · cases z
      by_cases hm : ∃ d, d ∈ ys.map id ∧ d = .tuple []
      · exact sorted_tups (enc := id) pl.isList E er al ht hm (by omega) deep fin
      · refine PySem.W.sorted_data (enc := id) pl.isList E er al (.inl fun d hd => ?_) (by omega) deep fin
        obtain ⟨xs, rfl⟩ := ht d hd
        cases xs with
        | nil => exact (hm ⟨_, hd, rfl⟩).elim
        | cons x r => exact ⟨x, r, rfl⟩
    · refine PySem.W.sorted_data (enc := id) pl.isList E er al (.inr fun d hd => ?_) (by omega) deep fin
      rw [List.map_id] at hd
      have z := h4 d hd
      constructor
      · rintro rfl; cases z
      · rintro zs rfl; cases z
  · cases he
theorem cr_blt (hc : X.calm = true) (hg : X.A.guards = some []) (hu : X.A.units + 100 < cLine) (f : Blt) : CallR X f.val (rBlt X.K f) := by
  cases f with
  | len => exact cr_len
  | abs => exact cr_abs
  | int => exact cr_int
  | max2 => exact cr_max2 hc hu
  | min2 => exact cr_min2 hc hu
  | all => exact cr_all' hc
  | any => exact cr_any' hc
  | sum => exact cr_sum' hc
  | tuple => exact cr_tuple
  | list => exact cr_list
  | repr => exact cr_repr hg hu
  | sorted => exact cr_sorted' hu
end
end Ev

set_option Elab.async false
set_option linter.all false
set_option maxRecDepth 100000
namespace Ev
open PySem PySem.W PySem.Calls PyProof.Rows PySem.SeqAt PySem.Spec
section
variable {prog : Program} {w : World} {A : Around} {E : Value → Shared → Prop} {s : Shared} {T : String} {r d : Addr} {n : Nat} {P : Nat → Value → Prop} {OK : Heap → Prop} {Q : Value → Shared → Prop}
/-- sorted(r) of what is walked -/
theorem sorted_src (K : KdlSrc prog w T r d n P OK) (hh : A.handled = none) (hok : OK s.heap) (hn : n ≤ sizeLine)
    (h : ∀ (h' : Heap) (tk : Nat) (vs : List Value), (∀ b o, s.heap.get? b = some o → h'.get? b = some o) → vs.length = n → (∀ (j : Nat) (v : Value), vs[j]? = some v → P j v) →
      ∃ κ, SortsAt prog w A.in1.in1 { s with heap := sortingHeap (h'.push (seqObj "list" vs.toArray 0)) h'.objs.size vs, toks := tk } κ vs ∧
        Q (.ref h'.objs.size) { s with heap := sortedHeap (h'.push (seqObj "list" vs.toArray 0)) h'.objs.size vs (sortVals κ false vs vs).toArray, toks := tk }) :
    wpAny (model prog w) A (call (.builtin "sorted") [.ref r]) Q E s := by
  refine call_function_entry kind_sorted plain_sorted entry_sorted (args_sorted1 _) ?_
  unfold Builtin.«sorted»
  refine wpAny_bind (m := checkCount "sorted" 1 1 _) (wpAny_pure ?_)
  refine wpAny_bind (kdu_collect (A := A.in1) K hh hok hn fun h' tk acc hk hacc => ?_)
  have hl : acc.toList.length = n := by rw [Array.length_toList]; exact hacc.1
  refine wpAny_bind (wpAny_newList ?_ (by rw [hl]; exact hn))
  obtain ⟨κ, S, q⟩ := h h' tk acc.toList hk hl (fun j v e => hacc.2 j v (by rw [← Array.getElem?_toList]; exact e))
  have ho : (h'.push (seqObj "list" acc.toList.toArray 0)).get? h'.objs.size = some (seqObj "list" acc.toList.toArray 0) := Heap.get?_push_size _ rfl
  refine wpAny_bind (wpAny_holding (wpAny_call_entry PySem.F.slot_list_sort ⟨_, ho, rfl⟩ entry_list_sort ?body (args_list_sort _)))
  case body =>
    refine list_sort_vals (A := A.in1.in1) ho S (by rw [hl]; exact hn) ⟨.none, rfl, ?_⟩
    exact wpAny_pure ⟨_, rfl, q⟩
end
end Ev
namespace Ev
open PySem PySem.Spec PyProof.Rows L2
section
variable {X : Cx} {pins : List (Addr × Obj)} {σ : L2.St} {H G : Hp} {s : Shared} {a : Addr} {kvs : List (PyData × PyData)} {A : Around} {E : Value → Shared → Prop}
theorem kv_raw {P : Program} {w : World} {K : Frg} {G : Hp} : ∀ {es : List (L2.Key × V)} {vs : List (L2.Key × Value)} {kvs : List (PyData × PyData)} {ds : List DictEntry}, Paired (fun (e : L2.Key × V) (p : PyData × PyData) => p.1 = keyD e.1 ∧ Dp K G e.2 p.2) es kvs → KV es vs → Pairs (mixKind P w) ds vs →
    PySem.W.EachIs (fun u d => ∃ v, RelV v u ∧ Dp K G v d) (ds.map (·.key)) (kvs.map (·.1))
  | _, _, _, _, .nil, .nil, h => by cases h; exact .nil
  | _, _, _, _, .cons r t, .cons r' t', h => by
    cases h with
    | cons h1 _ h2 =>
      refine .cons ?_ (kv_raw t t' h2)
      dsimp only
      rw [r.1, r'.1]
      rcases keyIs_shape h1 with ⟨i, tk, e1, e2⟩ | ⟨x, tk, e1, e2⟩
      · rw [e1, e2]; exact ⟨.int i, ⟨tk, rfl⟩, .int i⟩
      · rw [e1, e2]; exact ⟨.str x, ⟨tk, rfl⟩, .str x⟩
theorem tup_raw {K : Frg} {G : Hp} : ∀ {xs : List (NestedKey × Addr × V)} {ys : List (NestedKey × Addr × Value)} {kvs : List (PyData × PyData)}, Paired (KeyT K G) xs kvs → Paired RawP xs ys →
    PySem.W.EachIs (fun u d => ∃ v, RelV v u ∧ Dp K G v d) ((ys.map ent0).map (·.key)) (kvs.map (·.1))
  | _, _, _, .nil, .nil => .nil
  | _, _, _, .cons r t, .cons r' t' => by
    refine .cons ?_ (tup_raw t t')
    exact ⟨.ref _, r'.2.1 ▸ rfl, r.2.2.1⟩
/-- the entries of a dict -/
theorem dct_raw (I : Inv X pins σ H s) {o : HO} (e : H a = some o) (d : DctO X.K G a o kvs) : ∃ es ep, s.heap.DictRaw a es ep ∧ (a == sysModules) = false ∧ es.size = kvs.length ∧ kvs.length ≤ sizeLine ∧
    PySem.W.EachIs (fun u d => ∃ v, RelV v u ∧ Dp X.K G v d) (es.toList.map (·.key)) (kvs.map (·.1)) := by
  rcases d with ⟨es, rfl, d⟩ | ⟨xs, rfl, hn, d⟩
  · obtain ⟨z, hd, vs, rel, o', es', ep, h1, h2, h3, _, h4, _⟩ := dk_of I.hok e
    have q := kv_raw d rel h4
    refine ⟨es', ep, ⟨o', h1, h2, h3⟩, hd, ?_, by rw [← Paired.length d]; exact z, q⟩
    have := q.length
    simpa using this
  · obtain ⟨⟨hd, hz, nd, ys, rp, o', es, ep, h1, h2, h3, h4⟩, _, _⟩ := I.hok a _ e
    have q := tup_raw d rp
    rw [← h4] at q
    refine ⟨es, ep, ⟨o', h1, h2, h3⟩, hd, ?_, by rw [← Paired.length d]; exact hz, q⟩
    have := q.length
    simpa using this
theorem items_each {K : Frg} {G : Hp} {es : Array DictEntry} {ks : List PyData} {vs : List Value} (q : PySem.W.EachIs (fun u d => ∃ v, RelV v u ∧ Dp K G v d) (es.toList.map (·.key)) ks) (hl : vs.length = es.size)
    (h : ∀ (j : Nat) (v : Value), vs[j]? = some v → ∃ hi : j < es.size, v = es[j].key) : PySem.W.EachIs (fun u d => ∃ v, RelV v u ∧ Dp K G v d) vs ks := by
  have e : vs = es.toList.map (·.key) := by
    apply List.ext_getElem?
    intro j
    cases c : vs[j]? with
    | some v =>
      obtain ⟨hi, rfl⟩ := h j v c
      rw [List.getElem?_map, Array.getElem?_toList, Array.getElem?_eq_getElem hi]; rfl
    | none =>
      have := List.getElem?_eq_none_iff.mp c
      symm
      rw [List.getElem?_eq_none_iff]
      simp; omega
  rw [e]; exact q
theorem addr_new {h h' : Heap} (k : ∀ b o, h.get? b = some o → h'.get? b = some o) : h.get? h'.objs.size = none := by
  cases c : h.get? h'.objs.size with
  | none => rfl
  | some o => exact absurd (Heap.lt_size (k _ _ c)) (Nat.lt_irrefl _)
theorem not_tracked (I : Inv X pins σ H s) {b : Addr} (h : s.heap.get? b = none) (ho : ∀ o, ObjOk X.prog X.w H s.heap b o → ∃ u, s.heap.get? b = some u) : H b = none := by
  cases c : H b with
  | none => rfl
  | some o =>
    obtain ⟨u, hu⟩ := ho o (I.hok b o c)
    rw [h] at hu; cases hu
theorem obj_there {P : Program} {w : World} {H : Hp} {h : Heap} {b : Addr} {o : HO} (x : ObjOk P w H h b o) : ∃ u, h.get? b = some u := by
  induction o with
  | lst xs => obtain ⟨_, _, _, _, e⟩ := x; exact ⟨_, e⟩
  | tup xs => obtain ⟨_, _, _, o, e, _⟩ := x; exact ⟨_, e⟩
  | dK kvs => obtain ⟨_, _, _, _, o, _, _, e, _⟩ := x; exact ⟨_, e⟩
  | dT kvs => obtain ⟨_, _, _, _, o, _, _, e, _⟩ := x; exact ⟨_, e⟩
  | set S n => obtain ⟨o, _, _, _, e, _⟩ := x; exact ⟨_, e⟩
  | ins C dx fs => obtain ⟨_, _, _, e, _⟩ := x; exact ⟨_, e⟩
  | own y => exact x
  | xd fs => obtain ⟨_, ⟨o, _, _, e, _⟩, _⟩ := x; exact ⟨_, e⟩
  | rng lo hi => obtain ⟨_, _, _, e⟩ := x; exact ⟨_, e⟩
  | frz ob u ih => obtain ⟨e, _⟩ := x; exact ⟨_, e⟩
  | tbl ps => exact ⟨_, x⟩
  | met f y => exact ⟨_, x⟩
  | ext φ => exact x.2.1
def rBltK (K : Frg) (f : Blt) : List V → Hp → VK → Prop := fun vs H Q => ∃ G x kvs ev, Sub G H ∧ vs = [x] ∧ RdK K G H x kvs ∧ bltK f kvs = some ev ∧ Give K G H ev Q
theorem cr_lenK : CallR X (.builtin "len") (rBltK X.K .len) := by
  intro pins s σ H xs us Q I r h
  obtain ⟨G, x, kvs, ev, sub, rfl, ⟨a, o, rfl, e, d⟩, he, g⟩ := h
  cases he
  obtain ⟨u, rfl, rx⟩ := vals1 r
  cases rx
  rcases d with ⟨es, rfl, d⟩ | ⟨xs, rfl, hn, d⟩
  · refine d_len I (.inl e) fun t s' I' => ⟨.int kvs.length, H, I', ⟨t, by rw [Paired.length d]⟩, g.now sub (.int _)⟩
  · have ok := I.hok a _ e
    obtain ⟨⟨hd, hz, nd, ys, rp, o', es, ep, h1, h2, h3, h4⟩, _, _⟩ := ok
    have nt := raw_noTx d rp
    have dd : s.heap.DictOfH (nestedKind X.prog X.w) a ys := by
      refine ⟨o', es, ep, h1, h2, h3, ?_, keys_are I sub d rp, by rw [← raw_keys rp]; exact nd⟩
      rw [h4]
      exact List.map_congr_left fun z hz => by
        show ent0 z = ⟨z.1.hash X.w, _, _⟩
        unfold ent0
        rw [hash0_eq X.w z.1 (nt z hz)]
    have e1 := Paired.length rp
    have e2 := Paired.length d
    refine call_len_dictH hd dd (by rw [sizeLine_eq] at hz; omega) ⟨.int kvs.length, H, I.tok _, ⟨_, by rw [← e1, e2]⟩, g.now sub (.int _)⟩
theorem cr_listK (hc : X.calm = true) : CallR X (.type "list") (rBltK X.K .list) := by
  intro pins s σ H xs us Q I r h
  obtain ⟨G, x, kvs, ev, sub, rfl, ⟨a, o, rfl, e, d⟩, he, g⟩ := h
  simp only [bltK] at he
  split at he <;> cases he
  rename_i hl
  obtain ⟨u, rfl, rx⟩ := vals1 r
  cases rx
  obtain ⟨es, ep, hr, hd, hs, hz, q⟩ := dct_raw I e d
  refine PySem.W.kdl_call (PySem.KdlSrc.rawDict (es := es) (ep := ep) hd) (I.ok.hd hc) hr (by rw [hs]; exact hz) fun h' tk acc c hk ho hi => ?_
  obtain ⟨hi1, hi2⟩ := hi
  have q' := items_each (vs := acc.toList) q (by rw [Array.length_toList]; exact hi1) (fun j v z => hi2 j v (by rw [← Array.getElem?_toList]; exact z))
  obtain ⟨vs', r', d'⟩ := of_each q'
  have hp := I.hok.fresh (Nat.le_refl _)
  refine ⟨.ref _, upd H _ (.lst vs'), I.laid (t' := tk) hk (Nat.le_refl _) ⟨?_, acc.toList, c, r', by simpa using ho⟩, rfl, g.lst sub d' hp⟩
  rw [r'.length, Array.length_toList, hi1, hs]; exact hz
theorem cr_sortedK (hc : X.calm = true) (hu : X.A.units + 100 < cLine) : CallR X (.builtin "sorted") (rBltK X.K .sorted) := by
  intro pins s σ H xs us Q I r h
  obtain ⟨G, x, kvs, ev, sub, rfl, ⟨a, o, rfl, e, d⟩, he, g⟩ := h
  simp only [bltK, sortedD] at he
  split at he <;> cases he
  rename_i hd'
  simp only [canSort, Bool.and_eq_true, Bool.or_eq_true, decide_eq_true_eq, List.all_eq_true] at hd'
  obtain ⟨⟨⟨h1, h2⟩, h3⟩, h4⟩ := hd'
  obtain ⟨u, rfl, rx⟩ := vals1 r
  cases rx
  obtain ⟨es, ep, hr, hd, hs, hz, q⟩ := dct_raw I e d
  generalize hks : kvs.map (·.1) = ks at *
  refine sorted_src (PySem.KdlSrc.rawDict (es := es) (ep := ep) hd) (I.ok.hd hc) hr (by rw [hs]; exact hz) fun h' tk vs hk hl hi => ?_
  have q' := items_each (vs := vs) q hl hi
  have er : PySem.W.EachIs (fun v b => ∃ as, Reads s.heap v (id b) as) vs ks := q'.mono fun u d ⟨v, r1, d1⟩ => Dp.reads I d v u (dp_up sub d1) r1
  have hnew := addr_new hk
  have old : ∀ b ob, s.heap.get? b = some ob → (PySem.W.sortingHeap (h'.push (seqObj "list" vs.toArray 0)) h'.objs.size vs).get? b = some ob := fun b ob z =>
    PySem.W.sortingHeap_old (fun y => by rw [y] at z; rw [hnew] at z; cases z) (Heap.get?_push_of_some _ (hk b ob z))
  have er' : PySem.W.EachIs (fun v d => ∃ as, Reads (PySem.W.sortingHeap (h'.push (seqObj "list" vs.toArray 0)) h'.objs.size vs) v d as) vs ks := er.mono fun _ _ ⟨as, r⟩ => ⟨as, PyProof.Rows.Reads.keeps old r⟩
  have deep : ∀ b, b ∈ ks → X.A.in1.in1.units + b.depth < cLine := fun b hb => by
    have := h3 b hb
    have : X.A.in1.in1.units = X.A.units + 1 + 1 := rfl
    omega
  have hH : H h'.objs.size = none := not_tracked I hnew fun o ok => obj_there ok
  have fin : ∀ out : List Value, out.length = ks.length → PySem.W.EachIs (fun u d => ∃ v, RelV v u ∧ Dp X.K G v d) out (ks.mergeSort (PySem.W.dataLe false id)) → EP X pins σ Q (.ref h'.objs.size) { s with heap := sortedHeap (h'.push (seqObj "list" vs.toArray 0)) h'.objs.size vs out.toArray, toks := tk } := fun out ho eo => by
    obtain ⟨vs', r', d'⟩ := of_each eo
    obtain ⟨c, hcc⟩ := sortedHeap_at (vs := vs) (out := out.toArray) (show (h'.push (seqObj "list" vs.toArray 0)).get? h'.objs.size = some (seqObj "list" vs.toArray 0) from Heap.get?_push_size _ rfl)
    refine ⟨.ref _, upd H _ (.lst vs'), I.laidN (t' := tk) (fun b u z => ?_) hnew hH ⟨?_, out, c, r', hcc⟩, rfl, g.lst sub d' hH⟩
    · have hb : b ≠ h'.objs.size := fun y => by rw [y] at z; rw [hnew] at z; cases z
      have z' := Heap.get?_push_of_some (seqObj "list" vs.toArray 0) (hk b u z)
      rw [sortedHeap_old hb (Heap.lt_size z')]
      exact z'
    · rw [r'.length, ho]; exact h2
  have al : PySem.W.AllAlike ks := h1
  have lens : vs.length = ks.length := q'.length
  rcases h4 with h4 | h4
  · have ht : ∀ d, d ∈ ks → ∃ xs, d = .tuple xs := fun d hd => by
      have z := h4 d hd
      split at z
      · exact ⟨_, rfl⟩
      · cases z
    by_cases hm : ∃ d, d ∈ ks ∧ d = .tuple []
    · refine ⟨_, sorts_tup (s := { s with heap := PySem.W.sortingHeap (h'.push (seqObj "list" vs.toArray 0)) h'.objs.size vs, toks := tk }) er' al ht hm deep, ?_⟩
      refine fin _ (by rw [PySem.W.sortVals_length false rfl]; exact lens) ?_
      have := PySem.W.sortVals_data (enc := id) (R := fun u d => ∃ v, RelV v u ∧ Dp X.K G v d) false q' er' (by rw [List.map_id]; exact al)
      rw [List.map_id] at this
      exact this
    · refine ⟨_, PySem.W.SortsAt.data (s := { s with heap := PySem.W.sortingHeap (h'.push (seqObj "list" vs.toArray 0)) h'.objs.size vs, toks := tk }) er' al (.inl fun d hd => ?_) deep, ?_⟩
      · obtain ⟨xs, rfl⟩ := ht d hd
        cases xs with
        | nil => exact (hm ⟨_, hd, rfl⟩).elim
        | cons x r => exact ⟨x, r, rfl⟩
      · refine fin _ (by rw [PySem.W.sortVals_length false rfl]; exact lens) ?_
        have := PySem.W.sortVals_data (enc := id) (R := fun u d => ∃ v, RelV v u ∧ Dp X.K G v d) false q' er' (by rw [List.map_id]; exact al)
        rw [List.map_id] at this
        exact this
  · refine ⟨_, PySem.W.SortsAt.data (s := { s with heap := PySem.W.sortingHeap (h'.push (seqObj "list" vs.toArray 0)) h'.objs.size vs, toks := tk }) er' al (.inr fun d hd => ?_) deep, ?_⟩
    · have z := h4 d hd
      constructor
      · rintro rfl; cases z
      · rintro zs rfl; cases z
    · refine fin _ (by rw [PySem.W.sortVals_length false rfl]; exact lens) ?_
      have := PySem.W.sortVals_data (enc := id) (R := fun u d => ∃ v, RelV v u ∧ Dp X.K G v d) false q' er' (by rw [List.map_id]; exact al)
      rw [List.map_id] at this
      exact this
theorem RdV.key {K : Frg} {G H : Hp} {y : V} {k : PyData} (h : RdV K G H y k) (f : keyFits kvs k = true) : Dp K G y k := by
  rcases h with h | ⟨a, vs, xs, rfl, e, q, rfl⟩
  · exact h
  · rcases keyFits_cases f with f | f <;> cases f
/-- d[k] -/
def rIdxK (K : Frg) : R2 := fun x y H Q => ∃ G kvs k r, Sub G H ∧ RdK K G H x kvs ∧ RdV K G H y k ∧ keyFits kvs k = true ∧ dGet kvs k = some r ∧ ∀ v, Dp K G v r → Q v H
theorem ix_dctK (hu : X.A.units + 100 < cLine) : IxR X (rIdxK X.K) := by
  intro value slice pins s σ H x y v u Q I rx ry h hs
  obtain ⟨G, kvs, k, r, sub, ⟨a, o, rfl, e, d⟩, hy, f, hg, q⟩ := h
  cases rx
  obtain ⟨es, ep, hr, _⟩ := dct_raw I e d
  exact tail_any hr.typeIs slot_dict_getitem.lookup (x_get (by omega) I sub e d f (dp_up sub (RdV.key hy f)) ry hg fun w v s' I' rv dv => ⟨v, H, I', rv, q v dv⟩) hs
/-- k in d, k not in d -/
def rInK (K : Frg) (op : CmpOp) : R2 := fun x y H Q => ∃ G kvs k b, Sub G H ∧ RdV K G H x k ∧ RdK K G H y kvs ∧ inK op kvs k = some b ∧ Q (.bl b) H
theorem op_inK (hu : X.A.units + 100 < cLine) (op : CmpOp) : OpR X (compareOp op) (rInK X.K op) := by
  intro pins s σ H x y v u Q I rx ry h
  obtain ⟨G, kvs, k, b, sub, hx, ⟨a, o, rfl, e, d⟩, hb, q⟩ := h
  cases ry
  unfold inK at hb
  split at hb
  · split at hb <;> cases hb
    rename_i f
    exact x_in (by omega) I sub e d f (dp_up sub (RdV.key hx f)) rx fun s' I' => ⟨.bl _, H, I', rfl, q⟩
  · split at hb <;> cases hb
    rename_i f
    exact x_notIn (by omega) I sub e d f (dp_up sub (RdV.key hx f)) rx fun s' I' => ⟨.bl _, H, I', rfl, q⟩
  · cases hb
/-- d[k] = v -/
def rSetK (K : Frg) : TSet := fun o i v H Q => ∃ G a ob kvs k x, o = .ref a ∧ Sub G H ∧ H a = some ob ∧ DctO K G a ob kvs ∧ Dp K G i k ∧ Dp K G v x ∧ keyFits kvs k = true ∧ kvs.length < sizeLine ∧ ∀ ob', DctO K G a ob' (dPut kvs k x) → Q (upd H a ob')
theorem set_dctK (hu : X.A.units + 100 < cLine) : PSet X (rSetK X.K) := by
  intro pins s σ H o i v ov iv u Q I ro ri rv h
  obtain ⟨G, a, ob, kvs, k, x, rfl, sub, e, d, hi, hv, f, hl, q⟩ := h
  cases ro
  exact x_put (by omega) I sub e d f hl hi ri hv rv fun o' s' d' I' => ⟨_, I', q o' d'⟩
theorem cr_bltK (hc : X.calm = true) (hu : X.A.units + 100 < cLine) (f : Blt) : CallR X f.val (rBltK X.K f) := by
  have no : (∀ kvs, bltK f kvs = none) → CallR X f.val (rBltK X.K f) := fun z => by
    intro pins s σ H xs us Q I r h
    obtain ⟨G, x, kvs, ev, _, _, _, he, _⟩ := h
    rw [z] at he; cases he
  cases f with
  | len => exact cr_lenK
  | list => exact cr_listK hc
  | sorted => exact cr_sortedK hc hu
  | abs => exact no fun _ => rfl
  | int => exact no fun _ => rfl
  | max2 => exact no fun _ => rfl
  | min2 => exact no fun _ => rfl
  | all => exact no fun _ => rfl
  | any => exact no fun _ => rfl
  | sum => exact no fun _ => rfl
  | tuple => exact no fun _ => rfl
  | repr => exact no fun _ => rfl
end
end Ev

set_option Elab.async false
set_option linter.all false
set_option maxRecDepth 100000
/-! What a def promises, by the evaluator; the call of one. -/
namespace Ev
open PySem PySem.Spec PyProof.Rows L2
open Classical

def AvAt (K : Frg) (G H : Hp) (v : V) : AV → Prop
  | .d x => Dp K G v x
  | .x c x => XAt K G v c x
  | .o c => ∃ a, v = .ref a ∧ G a = none ∧ ConAt K G H a c
/-- the containers that are handed in -/
def Own (vs : List V) (avs : List AV) (a : Addr) : Prop := ∃ (i : Nat) (c : Con), vs[i]? = some (V.ref a) ∧ avs[i]? = some (AV.o c)
def Dist (vs : List V) (avs : List AV) : Prop := ∀ (i j : Nat) (a : Addr) (c c' : Con), vs[i]? = some (V.ref a) → avs[i]? = some (AV.o c) → vs[j]? = some (V.ref a) → avs[j]? = some (AV.o c') → i = j
/-- what the callee must leave as it is -/
noncomputable def prot (G H : Hp) (vs : List V) (avs : List AV) : Hp := fun a => if (G a).isSome = true ∨ Own vs avs a then none else H a
theorem prot_some {G H : Hp} {vs : List V} {avs : List AV} {a : Addr} {o : HO} (h : prot G H vs avs a = some o) : G a = none ∧ ¬ Own vs avs a ∧ H a = some o := by
  unfold prot at h
  split at h
  · cases h
  · rename_i q
    refine ⟨?_, fun z => q (.inr z), h⟩
    cases e : G a with
    | none => rfl
    | some u => exact absurd (.inl (by rw [e]; rfl)) q
theorem prot_of {G H : Hp} {vs : List V} {avs : List AV} {a : Addr} {o : HO} (h1 : G a = none) (h2 : ¬ Own vs avs a) (h3 : H a = some o) : prot G H vs avs a = some o := by
  unfold prot
  rw [if_neg]
  · exact h3
  · rintro (z | z)
    · rw [h1] at z; cases z
    · exact h2 z
def FinAt (K : Frg) (G H : Hp) (vs : List V) (avs : List AV) (fin : List Vr) : Prop := ∀ (i : Nat) (a : Addr) (c : Con), vs[i]? = some (V.ref a) → avs[i]? = some (AV.o c) → ∃ p l c', fin[i]? = some (Vr.o p l c') ∧ G a = none ∧ ConAt K G H a c'
def RetAt (K : Frg) (G H B : Hp) (vs : List V) (avs : List AV) (v : V) : AV → Prop
  | .d x => Dp K G v x
  | .x c x => XAt K G v c x
  | .o c => ∃ a, v = .ref a ∧ G a = none ∧ B a = none ∧ ¬ Own vs avs a ∧ ConAt K G H a c
def ExcAt (K : Frg) (cA : Nat → Addr) (G : Hp) (cls : Value) (d : Option Addr) (c : Nat) (x : PyData) : Prop :=
  cls = .ref (cA c) ∧ exA K c (cA c) ∧ ∃ a v, d = some a ∧ G a = some (.xd [("value", v)]) ∧ Dp K G v x
/-- behind a call -/
structure Aft (B G G' H' : Hp) : Prop where
  gg : Sub G G'
  gh : Sub G' H'
  bh : Sub B H'
  gb : ∀ a o, G' a = some o → B a = none
def SpF (K : Frg) (cA : Nat → Addr) (C : Calls) (np f : Nat) : Sp := fun vs H Q E => ∃ G avs, vs.length = np ∧ Sub G H ∧ Paired (AvAt K G H) vs avs ∧ Dist vs avs ∧
  match C f avs with
  | .stuck => False
  | .ret r fin => ∀ v G' H', Aft (prot G H vs avs) G G' H' → FinAt K G' H' vs avs fin → RetAt K G' H' (prot G H vs avs) vs avs v r → Q v H'
  | .exc c x fin => ∀ cls d G' H', Aft (prot G H vs avs) G G' H' → FinAt K G' H' vs avs fin → ExcAt K cA G' cls d c x → E cls d H'

structure FOk (P : Program) (w : World) (K : Frg) (mg : Str → Option Value) (base : Heap) (n : Nat) (f : Addr) (fd : FuncData) (ps : List Str) (sp : Sp) : Prop where
  len : ∀ vs H Q E, sp vs H Q E → vs.length = ps.length
  run : ∀ (A : Around) (outer : List Env) (s : Shared) (H : Hp) (args : Args) (us : List Value) (vs : List V) (Q : VK) (E : XK), Room (n + 3) A → A.guards = some [] → Env0 P w K mg base A outer s H → BindsTo s fd args (ps.zip us) → Vals vs us → sp vs H Q E →
    codeAny (model P w) A (.call (.ref f) args) (CR (CX P w) outer P w H s Q E) s

section
variable {X : Cx} {n : Nat} {f : Addr} {fd : FuncData} {ps : List Str} {sp : Sp} {W : WX}
theorem run_f {pins : List (Addr × Obj)} {σ : L2.St} {H : Hp} {s : Shared} {Q : VK} {us us' : List Value} {kw : List (Str × Value)} {vs : List V} (F : FOk X.prog X.w X.K X.mg X.base n f fd ps sp) (hr : Room (n + 3) X.A) (hg : X.A.guards = some [])
    (hb : BindsTo s fd ⟨us, kw⟩ (ps.zip us')) (tk : Takes X W) (I : Inv X pins σ H s) (r : Vals vs us') (h : sp vs H Q (fun c d H' => W c d σ H')) :
    wpAny (model X.prog X.w) X.A (call (.ref f) us kw) (EP X pins σ Q) X.xe s := by
  refine wpAny_call (codeAny_mono (F.run X.A X.stack s H ⟨us, kw⟩ us' vs Q _ hr hg I.env0 hb r h) fun res s' hq => ?_)
  cases res with
  | error e => exact tk _ _ (XE.of_call I (fun _ _ _ z => z) hq)
  | ok fl =>
    cases fl with
    | ret u => exact I.after hq
    | next => exact False.elim hq
    | brk => exact False.elim hq
    | cont => exact False.elim hq
def tCallX (sp : Sp) (W : WX) (t : TA) : TE := fun σ H Q => t σ H fun vs H1 => sp vs H1 Q fun c d H' => W c d σ H'
theorem pe_callX {x : Str} {p pos : Pos} {e : Expr} {es : List Expr} {t : TA} (F : FOk X.prog X.w X.K X.mg X.base n f fd ps sp) (hr : Room (n + 3) X.A) (hgd : X.A.guards = some []) (hg : Gl X x) (hm : X.mg x = some (.ref f)) (hk : PySem.W.keepIn X.K (.ref f) = true)
    (hb : ∀ (s : Shared) (us : List Value), us.length = ps.length → BindsTo s fd ⟨us, []⟩ (ps.zip us)) (tk : Takes X W) (ha : PA X (e :: es) t) (hdb : (x == ("__debug__" : Str)) = false)
    (he : starEach (e :: es) X.env = (false, eval e X.env) :: starEach es X.env) (hpl : (backTo pos (starEach es X.env)).any (·.1) = false) : PE X (.Call (.Name x p) (e :: es) [] pos) (tCallX sp W t) := by
  refine ⟨fun pins s σ H Q I h => ?_⟩
  refine wpAny_Call_Name_kw (ld_glob I hg hm ?_ hdb)
  refine PySem.W.callWith_K (h₀ := X.base) I.ok.mod.kin hk (thn (ha.run pos pins s σ H _ I h) fun us s1 ⟨vs, H1, I1, r, q⟩ => ⟨I1.kIn, ?_⟩) he hpl
  exact run_f F hr hgd (hb s1 us (by rw [← r.length]; exact F.len _ _ _ _ q)) tk I1 r q
theorem pe_callX0 {x : Str} {p pos : Pos} (F : FOk X.prog X.w X.K X.mg X.base n f fd ps sp) (hr : Room (n + 3) X.A) (hgd : X.A.guards = some []) (hg : Gl X x) (hm : X.mg x = some (.ref f)) (hk : PySem.W.keepIn X.K (.ref f) = true)
    (hb : ∀ (s : Shared) (us : List Value), us.length = ps.length → BindsTo s fd ⟨us, []⟩ (ps.zip us)) (tk : Takes X W) (hdb : (x == ("__debug__" : Str)) = false) : PE X (.Call (.Name x p) [] [] pos) (tCallX sp W tNil) := by
  refine ⟨fun pins s σ H Q I h => ?_⟩
  refine wpAny_Call_Name_kw (ld_glob I hg hm ?_ hdb)
  exact PySem.W.callWith_K0 I.kIn hk (run_f (us := []) F hr hgd (hb s [] (F.len _ _ _ _ h)) tk I .nil h)
theorem pe_callXK {x : Str} {p pos : Pos} {kws : List Keyword} {t : TA} (F : FOk X.prog X.w X.K X.mg X.base n f fd ps sp) (hr : Room (n + 3) X.A) (hgd : X.A.guards = some []) (hg : Gl X x) (hm : X.mg x = some (.ref f)) (hk : PySem.W.keepIn X.K (.ref f) = true)
    (hb : ∀ (s : Shared) (us : List Value), us.length = ps.length → BindsTo s fd ⟨[], ps.zip us⟩ (ps.zip us)) (tk : Takes X W) (ha : PK X kws t) (hdb : (x == ("__debug__" : Str)) = false)
    (hall : (backToKw pos (keywordEach kws X.env)).all (·.1.isSome) = true) (hks : (backToKw pos (keywordEach kws X.env)).filterMap (·.1) = ps)
    (hpl : ((backTo pos (starEach [] X.env)).any (·.1) || (backToKw pos (keywordEach kws X.env)).any (·.1.isNone)) = false) : PE X (.Call (.Name x p) [] kws pos) (tCallX sp W t) := by
  refine ⟨fun pins s σ H Q I h => ?_⟩
  refine wpAny_Call_Name_kw (ld_glob I hg hm ?_ hdb)
  refine PySem.W.callWith_KW0 (h₀ := X.base) I.ok.mod.kin hk hall (thn (ha.run pos pins s σ H _ I h) fun us s1 ⟨vs, H1, I1, r, q⟩ => ⟨I1.kIn, ?_⟩) hpl
  rw [hks]
  exact run_f F hr hgd (hb s1 us (by rw [← r.length]; exact F.len _ _ _ _ q)) tk I1 r q
theorem paired_fm {α β : Type} {R : α → β → Prop} {xs : List α} {ys : List β} (h : Paired R xs ys) (f : Nat → Nat) : ∀ is : List Nat, Paired R (is.filterMap fun i => xs[f i]?) (is.filterMap fun i => ys[f i]?)
  | [] => .nil
  | i :: is => by
    have ih := paired_fm h f is
    have hl := Paired.length h
    have get : ∀ {xs : List α} {ys : List β} {k : Nat} {x : α} {y : β}, Paired R xs ys → xs[k]? = some x → ys[k]? = some y → R x y := by
      intro xs ys k x y p
      induction p generalizing k with
      | nil => intro e; simp at e
      | cons a _ ih =>
        intro e1 e2
        cases k with
        | zero => simp at e1 e2; subst e1 e2; exact a
        | succ k => exact ih (by simpa using e1) (by simpa using e2)
    rw [List.filterMap_cons, List.filterMap_cons]
    cases e : xs[f i]? with
    | none =>
      have e' : ys[f i]? = none := by rw [List.getElem?_eq_none_iff] at e ⊢; omega
      rw [e']; exact ih
    | some x =>
      have hk : f i < ys.length := by have := (List.getElem?_eq_some_iff.mp e).1; omega
      rw [List.getElem?_eq_getElem hk]
      exact .cons (get h e (List.getElem?_eq_getElem hk)) ih
theorem paired_reord {α β : Type} {R : α → β → Prop} {xs : List α} {ys : List β} (h : Paired R xs ys) (π : List Nat) : Paired R (reord π xs) (reord π ys) := paired_fm h _ _
theorem paired_app {α β : Type} {R : α → β → Prop} : ∀ {xs xs' : List α} {ys ys' : List β}, Paired R xs ys → Paired R xs' ys' → Paired R (xs ++ xs') (ys ++ ys')
  | _, _, _, _, .nil, h => h
  | _, _, _, _, .cons a t, h => .cons a (paired_app t h)
/-- a call with both: values in a row, values by name -/
def tCallM (sp : Sp) (W : WX) (p : Nat) (π : List Nat) (tp tk : TA) : TE := fun σ H Q => tp σ H fun vs H1 => tk σ H1 fun ws H2 => vs.length = p ∧ vs.length + ws.length = π.length ∧ sp (reord π (vs ++ ws)) H2 Q fun c d H' => W c d σ H'
theorem pe_callXM {x : Str} {p pos : Pos} {e : Expr} {es : List Expr} {kws : List Keyword} {names : List Str} {np : Nat} {π : List Nat} {tp tk' : TA} (F : FOk X.prog X.w X.K X.mg X.base n f fd ps sp) (hr : Room (n + 3) X.A) (hgd : X.A.guards = some []) (hg : Gl X x) (hm : X.mg x = some (.ref f)) (hk : PySem.W.keepIn X.K (.ref f) = true)
    (hb : ∀ (s : Shared) (us ws : List Value), us.length = np → us.length + ws.length = π.length → BindsTo s fd ⟨us, names.zip ws⟩ (ps.zip (reord π (us ++ ws)))) (tk : Takes X W) (ha : PA X (e :: es) tp) (hkw : PK X kws tk') (hdb : (x == ("__debug__" : Str)) = false)
    (hall : (backToKw pos (keywordEach kws X.env)).all (·.1.isSome) = true) (hks : (backToKw pos (keywordEach kws X.env)).filterMap (·.1) = names)
    (he : starEach (e :: es) X.env = (false, eval e X.env) :: starEach es X.env) (hpl : ((backTo pos (starEach (e :: es) X.env)).any (·.1) || (backToKw pos (keywordEach kws X.env)).any (·.1.isNone)) = false) : PE X (.Call (.Name x p) (e :: es) kws pos) (tCallM sp W np π tp tk') := by
  refine ⟨fun pins s σ H Q I h => wpAny_Call_Name_kw (ld_glob I hg hm ?_ hdb)⟩
  refine PySem.W.callWith_KW (first := []) (h₀ := X.base) I.ok.mod.kin hk hall (thn (ha.run pos pins s σ H _ I h) fun us s1 ⟨vs, H1, I1, r, q⟩ => thn (hkw.run pos pins s1 σ H1 _ I1 q) fun ks s2 ⟨ws, H2, I2, r2, q2⟩ => ⟨I2.kIn, ?_⟩) hpl he
  obtain ⟨l1, l2, q3⟩ := q2
  rw [hks]
  have e1 := Paired.length r
  have e2 := Paired.length r2
  exact run_f F hr hgd (hb s2 us ks (by omega) (by omega)) tk I2 (paired_reord (paired_app r r2) π) q3
theorem pe_callXM0 {x : Str} {p pos : Pos} {kws : List Keyword} {names : List Str} {π : List Nat} {tk' : TA} (F : FOk X.prog X.w X.K X.mg X.base n f fd ps sp) (hr : Room (n + 3) X.A) (hgd : X.A.guards = some []) (hg : Gl X x) (hm : X.mg x = some (.ref f)) (hk : PySem.W.keepIn X.K (.ref f) = true)
    (hb : ∀ (s : Shared) (us ws : List Value), us.length = 0 → us.length + ws.length = π.length → BindsTo s fd ⟨us, names.zip ws⟩ (ps.zip (reord π (us ++ ws)))) (tk : Takes X W) (hkw : PK X kws tk') (hdb : (x == ("__debug__" : Str)) = false)
    (hall : (backToKw pos (keywordEach kws X.env)).all (·.1.isSome) = true) (hks : (backToKw pos (keywordEach kws X.env)).filterMap (·.1) = names)
    (hpl : ((backTo pos (starEach [] X.env)).any (·.1) || (backToKw pos (keywordEach kws X.env)).any (·.1.isNone)) = false) : PE X (.Call (.Name x p) [] kws pos) (tCallM sp W 0 π tNil tk') := by
  refine ⟨fun pins s σ H Q I h => wpAny_Call_Name_kw (ld_glob I hg hm ?_ hdb)⟩
  refine PySem.W.callWith_KW0 (first := []) (h₀ := X.base) I.ok.mod.kin hk hall (thn (hkw.run pos pins s σ H _ I h) fun ks s2 ⟨ws, H2, I2, r2, q2⟩ => ⟨I2.kIn, ?_⟩) hpl
  obtain ⟨l1, l2, q3⟩ := q2
  rw [hks]
  have e2 := Paired.length r2
  exact run_f F hr hgd (hb s2 [] ks rfl (by simp at l2 ⊢; omega)) tk I2 (paired_reord r2 π) q3
end
end Ev

set_option Elab.async false
set_option linter.all false
set_option maxRecDepth 100000
/-! Expressions: the evaluator is sound. -/
namespace Ev
open PySem PySem.Spec PyProof.Rows L2

def Fin {α : Type} (P : α → Rho → Prop) (PX : Nat → PyData → Rho → Prop) : Out α → Prop
  | .stuck => False
  | .ok a ρ => P a ρ
  | .exc c x ρ => PX c x ρ
section
variable {α β : Type} {P : α → Rho → Prop} {R : β → Rho → Prop} {PX PX' : Nat → PyData → Rho → Prop}
theorem Fin.bind {o : Out α} {f : α → Rho → Out β} (h : Fin R PX (o.bind f)) : Fin (fun a ρ => Fin R PX (f a ρ)) PX o := by
  cases o <;> exact h
theorem Fin.imp {P' : α → Rho → Prop} {o : Out α} (h : Fin P PX o) (h1 : ∀ a ρ, P a ρ → P' a ρ) (h2 : ∀ c x ρ, PX c x ρ → PX' c x ρ) : Fin P' PX' o := by
  cases o with
  | stuck => exact h
  | ok a ρ => exact h1 _ _ h
  | exc c x ρ => exact h2 _ _ _ h
theorem Fin.of {ρ : Rho} {o : Option α} (h : Fin P PX (Out.of ρ o)) : ∃ a, o = some a ∧ P a ρ := by
  cases o with
  | none => exact h.elim
  | some a => exact ⟨a, rfl, h⟩
end

/-- what stays the same while an expression is evaluated -/
structure Cn where
  K : Frg
  B : Hp
  A : Fix
  σ : L2.St
  W : WX
  cA : Nat → Addr
abbrev Cn.F (Γ : Cn) (G H : Hp) (ρ : Rho) : Prop := FR Γ.K Γ.B Γ.A G H Γ.σ ρ
def PX (Γ : Cn) (G : Hp) (c : Nat) (x : PyData) (ρ : Rho) : Prop := ∀ cls d G' H', Sub G G' → Γ.F G' H' ρ → ExcAt Γ.K Γ.cA G' cls d c x → Γ.W cls d Γ.σ H'
def PV (Γ : Cn) (G : Hp) (Q : V → Hp → Prop) (u : EV) (ρ : Rho) : Prop := ∀ v G' H', Sub G G' → Γ.F G' H' ρ → RelEV Γ.K Γ.B G' H' Γ.σ ρ v u → Q v H'
def PB (Γ : Cn) (G : Hp) (Q : Bool → Hp → Prop) (b : Bool) (ρ : Rho) : Prop := ∀ G' H', Sub G G' → Γ.F G' H' ρ → Q b H'
theorem PX.up {Γ : Cn} {G G1 : Hp} {c : Nat} {x : PyData} {ρ : Rho} (h : PX Γ G c x ρ) (s : Sub G G1) : PX Γ G1 c x ρ := fun cls d G' H' s' => h cls d G' H' (s.tr s')
theorem PV.up {Γ : Cn} {G G1 : Hp} {Q : V → Hp → Prop} {u : EV} {ρ : Rho} (h : PV Γ G Q u ρ) (s : Sub G G1) : PV Γ G1 Q u ρ := fun v G' H' s' => h v G' H' (s.tr s')
theorem PB.up {Γ : Cn} {G G1 : Hp} {Q : Bool → Hp → Prop} {u : Bool} {ρ : Rho} (h : PB Γ G Q u ρ) (s : Sub G G1) : PB Γ G1 Q u ρ := fun G' H' s' => h G' H' (s.tr s')
abbrev FinV (Γ : Cn) (G : Hp) (Q : V → Hp → Prop) (o : Out EV) : Prop := Fin (PV Γ G Q) (PX Γ G) o
abbrev FinB (Γ : Cn) (G : Hp) (Q : Bool → Hp → Prop) (o : Out Bool) : Prop := Fin (PB Γ G Q) (PX Γ G) o
theorem FinV.up {Γ : Cn} {G G1 : Hp} {Q : V → Hp → Prop} {o : Out EV} (h : FinV Γ G Q o) (s : Sub G G1) : FinV Γ G1 Q o := Fin.imp h (fun _ _ z => z.up s) fun _ _ _ z => z.up s
theorem FinB.up {Γ : Cn} {G G1 : Hp} {Q : Bool → Hp → Prop} {o : Out Bool} (h : FinB Γ G Q o) (s : Sub G G1) : FinB Γ G1 Q o := Fin.imp h (fun _ _ z => z.up s) fun _ _ _ z => z.up s
/-- go on behind a part: f is what comes behind, at what the part left -/
theorem Fin.then {Γ : Cn} {G : Hp} {α β : Type} {R : β → Rho → Prop} {P : α → Rho → Prop} {o : Out α} {f : α → Rho → Out β} (h : Fin R (PX Γ G) (o.bind f)) (k : ∀ a ρ, Fin R (PX Γ G) (f a ρ) → P a ρ) : Fin P (PX Γ G) o :=
  h.bind.imp k fun _ _ _ z => z

theorem Fin.step {Γ : Cn} {G G2 : Hp} {α β : Type} {R : β → Rho → Prop} {P : α → Rho → Prop} {o : Out α} {f : α → Rho → Out β} (h : Fin R (PX Γ G) (o.bind f)) (s : Sub G G2) (k : ∀ a ρ, Fin R (PX Γ G) (f a ρ) → P a ρ) : Fin P (PX Γ G2) o :=
  h.bind.imp k fun _ _ _ z => z.up s

section
variable (U : Consts) (C : Calls) (cA : Nat → Addr) (X : Cx)
/-- an expression -/
def SO (e : Expr) (o : Rho → Out EV) : Prop := ∀ W, Takes X W → ∃ t, PE X e t ∧ ∀ B A G H σ ρ Q, FR X.K B A G H σ ρ → FinV ⟨X.K, B, A, σ, W, cA⟩ G Q (o ρ) → t σ H Q
abbrev SE (e : Expr) (ex : Ex) : Prop := SO cA X e (evE U C ex)
/-- a test -/
def TO (e : Expr) (o : Rho → Out Bool) : Prop := ∀ W, Takes X W → ∃ t, PT X e t ∧ ∀ B A G H σ ρ Q, FR X.K B A G H σ ρ → FinB ⟨X.K, B, A, σ, W, cA⟩ G Q (o ρ) → t σ H Q
abbrev ST (e : Expr) (ex : Ex) : Prop := TO cA X e fun ρ => asB (evE U C ex ρ)
/-- a test whatever its whole is -/
def SW (e : Expr) (o : Rho → Out Bool) : Prop := ∀ W, Takes X W → ∃ t, PW X e t ∧ ∀ B A G H σ ρ Q, FR X.K B A G H σ ρ → FinB ⟨X.K, B, A, σ, W, cA⟩ G Q (o ρ) → t σ H Q
end

section
variable {K : Frg} {B G H G' H' : Hp} {A : Fix} {σ : L2.St} {ρ : Rho}
theorem FR.notOwn (F : FR K B A G H σ ρ) {p : Addr} (h : H p = none) : ∀ i q c, get ρ i = .o q false c → σ[i]? ≠ some (some (.ref p)) := fun i q c e z => by
  obtain ⟨a, h1, _, _, h4⟩ := F.own i q c e
  rw [z] at h1; cases h1
  obtain ⟨o, ho⟩ := h4.some
  rw [h] at ho; cases ho
theorem give {Γ : Cn} {Q : V → Hp → Prop} {u : EV} {G1 : Hp} (h : PV Γ G Q u ρ) (s : Sub G G1) (F : Γ.F G1 H ρ) (nb : ∀ i, u ≠ .b i) (nd : (∀ k, u ≠ .o (.dct k)) ∧ ∀ c y, u ≠ .x c y) : Give Γ.K G1 H u Q := by
  cases u with
  | d r => exact fun v G' H' n d => h v G' H' (s.tr n.gg) (F.new n) d
  | b i => exact absurd rfl (nb i)
  | x c y => exact absurd rfl (nd.2 c y)
  | o c =>
    cases c with
    | dct k => exact absurd rfl (nd.1 k)
    | lst xs => exact fun p vs G' H' n hp e1 e2 d => h _ G' H' (s.tr n.gg) (F.new n) ⟨p, rfl, e2, none_of_sub F.bh hp, ⟨vs, e1, d⟩, fun i q c e => F.notOwn hp i q c e⟩
/-- hold a value -/
theorem held {u u' : EV} {v : V} (F : FR K B A G H σ ρ) (r : RelEV K B G H σ ρ v u) (h : hold u = some u') : ∃ G', Sub G G' ∧ FR K B A G' H σ ρ ∧ HR K G' σ v u' := by
  cases u with
  | d x => cases h; exact ⟨G, Sub.rfl, F, r⟩
  | b i => cases h; exact ⟨G, Sub.rfl, F, r.1⟩
  | x c y => cases h; exact ⟨G, Sub.rfl, F, r⟩
  | o c =>
    cases c with
    | dct k =>
      cases h
      obtain ⟨a, rfl, h2, h3, ⟨o, h4, h5⟩, h6⟩ := r
      exact ⟨upd G a o, Sub.add h2, F.frz h3 h4 h6, a, o, rfl, upd_same, h5.up (Sub.add h2)⟩
    | lst xs =>
      cases h
      obtain ⟨a, rfl, h2, h3, ⟨vs, h4, h5⟩, h6⟩ := r
      exact ⟨upd G a (.lst vs), Sub.add h2, F.frz h3 h4 h6, .lst (.inl (.inl upd_same)) (dps_up (Sub.add h2) h5)⟩

theorem len_set {ρ : Rho} {i : Nat} {x : Vr} : (ρ.set i x).length = ρ.length := by simp
/-- a slot's own list turns into data -/
theorem FR.turn (F : FR K B A G H σ ρ) {i : Nat} {a : Addr} {xs : List PyData} {vs : List V} (e : get ρ i = .o false false (.lst xs)) (hs : σ[i]? = some (some (.ref a))) (hG : G a = none) (hB : B a = none) (hH : H a = some (.lst vs)) (hd : DpAll K G vs xs) :
    FR K B A (upd G a (.lst vs)) H σ (ρ.set i (.d (.list xs))) := by
  have hl : i < ρ.length := get_lt (by rw [e]; simp)
  have s : Sub G (upd G a (.lst vs)) := Sub.add hG
  have old : ∀ j x, get (ρ.set i (.d (.list xs))) j = x → j ≠ i → get ρ j = x := fun j x z n => by rwa [get_set_ne (Ne.symm n)] at z
  have ne : ∀ j p c, get (ρ.set i (.d (.list xs))) j = .o p false c → j ≠ i ∧ get ρ j = .o p false c := fun j p c z => by
    by_cases h : j = i
    · subst h; rw [get_set_same hl] at z; cases z
    · exact ⟨h, old j _ z h⟩
  refine ⟨by rw [len_set]; exact F.len, F.gh.at hH, F.bh, fun b o q => ?_, fun j x z => ?_, fun j p c z => ?_, fun j p c z => ?_, fun j k p c p' c' v z1 z2 => ?_, fun j c x z => ?_, fun j b p z => ?_, fun j p l c z q => ?_⟩
  · by_cases hb : b = a
    · rw [hb]; exact hB
    · rw [upd_ne hb] at q; exact F.gb b o q
  · by_cases h : j = i
    · subst h; rw [get_set_same hl] at z; cases z
      exact ⟨_, hs, .lst (.inl (.inl upd_same)) (dps_up s hd)⟩
    · obtain ⟨v, h1, h2⟩ := F.dat j x (old j _ z h)
      exact ⟨v, h1, dp_up s h2⟩
  · obtain ⟨h, z'⟩ := ne j p c z
    obtain ⟨b, h1, h2, h3, h4⟩ := F.own j p c z'
    have hb : b ≠ a := fun q => h (F.inj j i p c false _ _ z' e (by rw [h1]) (by rw [hs, q]))
    exact ⟨b, h1, by rw [upd_ne hb]; exact h2, h3, h4.up s rfl⟩
  · have h : j ≠ i := fun q => by subst q; rw [get_set_same hl] at z; cases z
    obtain ⟨b, ys, ws, h1, h2, h3, h4⟩ := F.lck j p c (old j _ z h)
    exact ⟨b, ys, ws, h1, h2, h3, dps_up s h4⟩
  · exact F.inj j k p c p' c' v (ne j p c z1).2 (ne k p' c' z2).2
  · have h : j ≠ i := fun q => by subst q; rw [get_set_same hl] at z; cases z
    obtain ⟨v, h1, h2⟩ := F.exc j c x (old j _ z h)
    exact ⟨v, h1, h2.up s⟩
  · obtain ⟨h1, l, c, h2, h3⟩ := F.fix j b p z
    have h : j ≠ i := fun q => by
      subst q; rw [e] at h2; cases h2; cases h3
    exact ⟨h1, l, c, by rw [get_set_ne (Ne.symm h)]; exact h2, h3⟩
  · have h : j ≠ i := fun q' => by subst q'; rw [get_set_same hl] at z; cases z
    exact F.fixd j p l c (old j _ z h) q
/-- a value becomes data for good -/
theorem frozen {u : EV} {v : V} {x : PyData} {ρ' : Rho} (F : FR K B A G H σ ρ) (r : RelEV K B G H σ ρ v u) (h : fz ρ u = .ok x ρ') : ∃ G', Sub G G' ∧ FR K B A G' H σ ρ' ∧ Dp K G' v x := by
  cases u with
  | x c y => cases h
  | d y => cases h; exact ⟨G, Sub.rfl, F, r⟩
  | o c =>
    cases c with
    | dct k =>
      cases k with
      | cons _ _ => cases h
      | nil =>
        cases h
        obtain ⟨a, rfl, h2, h3, ⟨o, h4, h5⟩, h6⟩ := r
        have ho : o = .dK [] := by
          rcases h5 with ⟨es, rfl, q⟩ | ⟨xs, _, hn, q⟩
          · cases q; rfl
          · cases q; exact absurd rfl hn
        subst ho
        exact ⟨upd G a (.dK []), Sub.add h2, F.frz h3 h4 h6, .dic upd_same⟩
    | lst xs =>
      cases h
      obtain ⟨a, rfl, h2, h3, ⟨vs, h4, h5⟩, h6⟩ := r
      exact ⟨upd G a (.lst vs), Sub.add h2, F.frz h3 h4 h6, .lst (.inl (.inl upd_same)) (dps_up (Sub.add h2) h5)⟩
  | b i =>
    obtain ⟨r1, _⟩ := r
    simp only [fz] at h
    split at h
    · rename_i y e
      cases h
      obtain ⟨w, h1, h2⟩ := F.dat i _ e
      rw [r1] at h1; cases h1
      exact ⟨G, Sub.rfl, F, h2⟩
    · rename_i xs e
      cases h
      obtain ⟨a, h1, h2, h3, vs, h4, h5⟩ := F.own i _ _ e
      rw [r1] at h1; cases h1
      exact ⟨_, Sub.add h2, F.turn e r1 h2 h3 h4 h5, .lst (.inl (.inl upd_same)) (dps_up (Sub.add h2) h5)⟩
    · cases h
theorem fz_exc {ρ : Rho} {u : EV} {c : Nat} {x : PyData} {ρ' : Rho} (h : fz ρ u = .exc c x ρ') : False := by
  cases u with
  | d y => cases h
  | o c =>
    cases c with
    | lst _ => cases h
    | dct k => cases k <;> cases h
  | x c y => cases h
  | b i => simp only [fz] at h; split at h <;> cases h
/-- .. then go on -/
theorem Fin.frozen {Γ : Cn} {α : Type} {R : α → Rho → Prop} {u : EV} {v : V} {f : PyData → Rho → Out α} (h : Fin R (PX Γ G) ((fz ρ u).bind f)) (F : Γ.F G' H ρ) (r : RelEV Γ.K Γ.B G' H Γ.σ ρ v u) :
    ∃ x ρ' G'', Sub G' G'' ∧ Γ.F G'' H ρ' ∧ Dp Γ.K G'' v x ∧ Fin R (PX Γ G) (f x ρ') := by
  cases q : fz ρ u with
  | stuck => rw [q] at h; exact h.elim
  | exc c x ρ' => exact (fz_exc q).elim
  | ok x ρ' =>
    rw [q] at h
    obtain ⟨G'', h1, h2, h3⟩ := Ev.frozen F r q
    exact ⟨x, ρ', G'', h1, h2, h3, h⟩
end

section
variable {U : Consts} {C : Calls} {cA : Nat → Addr} {X : Cx} {a b c e : Expr} {xa xb xc : Ex} {pos : Pos}
theorem se_lit {x : PyData} {k : Nat} {q : Const} (h : match x, q with | .int i, .int j => i = j | .bool i, .bool j => i = j | .none, .none => True | .str i, .str j => i = j | _, _ => False) : SE U C cA X (.Constant q k pos) (.lit x) := by
  intro W tk
  cases x <;> cases q <;> first | exact h.elim | skip
  · exact ⟨_, pe_non, fun B A G H σ ρ Q F g => g _ G H Sub.rfl F .non⟩
  · cases h; exact ⟨_, pe_bl, fun B A G H σ ρ Q F g => g _ G H Sub.rfl F (.bl _)⟩
  · cases h; exact ⟨_, pe_int, fun B A G H σ ρ Q F g => g _ G H Sub.rfl F (.int _)⟩
  · cases h; exact ⟨_, pe_str, fun B A G H σ ρ Q F g => g _ G H Sub.rfl F (.str _)⟩
theorem se_var {i : Nat} {x : Str} (h1 : X.N[i]? = some x) (h2 : Vis X.env.scope x) (h3 : (x == ("__debug__" : Str)) = false) (h4 : (x == ("__classdict__" : Str)) = false) : SE U C cA X (.Name x pos) (.var i) := by
  intro W tk
  refine ⟨_, pe_var h1 h2 h3 h4, fun B A G H σ ρ Q F g => ?_⟩
  simp only [evE] at g
  split at g
  · rename_i y e
    obtain ⟨v, k1, k2⟩ := F.dat i y e
    exact ⟨v, k1, g v G H Sub.rfl F k2⟩
  · rename_i p l c e
    cases l with
    | false =>
      obtain ⟨a, k1, _⟩ := F.own i _ _ e
      exact ⟨_, k1, g _ G H Sub.rfl F ⟨k1, _, _, _, e⟩⟩
    | true =>
      obtain ⟨a, xs, vs, k1, _⟩ := F.lck i _ _ e
      exact ⟨_, k1, g _ G H Sub.rfl F ⟨k1, _, _, _, e⟩⟩
  · rename_i c y e
    obtain ⟨v, k1, k2⟩ := F.exc i c y e
    exact ⟨v, k1, g v G H Sub.rfl F k2⟩
  · exact g.elim
/-- two parts, then an operator on what is read -/
theorem two (iha : SE U C cA X a xa) (ihb : SE U C cA X b xb) {r : R2} {f : PyData → PyData → Option EV} (hf : ∀ x y u, f x y = some u → (∀ i, u ≠ .b i) ∧ (∀ k, u ≠ .o (.dct k)) ∧ ∀ c y, u ≠ .x c y)
    (hr : ∀ (x y : V) (H : Hp) (Q : V → Hp → Prop), (∃ G u w ev, Sub G H ∧ RdV X.K G H x u ∧ RdV X.K G H y w ∧ f u w = some ev ∧ Give X.K G H ev Q) → r x y H Q) :
    ∀ W, Takes X W → ∃ ta tb, PE X a ta ∧ PE X b tb ∧ ∀ B A G H σ ρ Q, FR X.K B A G H σ ρ → FinV ⟨X.K, B, A, σ, W, cA⟩ G Q ((evE U C xa ρ).bind fun u ρ1 => match hold u with
      | none => .stuck
      | some u => (evE U C xb ρ1).bind fun v ρ2 => match rd ρ2 u, rd ρ2 v with
        | some x, some y => Out.of ρ2 (f x y)
        | _, _ => .stuck) → tOp r ta tb σ H Q := by
  intro W tk
  obtain ⟨ta, pa, ha⟩ := iha W tk
  obtain ⟨tb, pb, hb⟩ := ihb W tk
  refine ⟨ta, tb, pa, pb, fun B A G H σ ρ Q F g => ?_⟩
  refine ha B A G H σ ρ _ F (g.then fun u ρ1 g1 v G1 H1 s1 F1 r1 => ?_)
  cases hu : hold u with
  | none => simp only [hu] at g1; exact g1.elim
  | some u' =>
    simp only [hu] at g1
    obtain ⟨G2, s2, F2, r2⟩ := held F1 r1 hu
    refine hb B A G2 H1 σ ρ1 _ F2 (g1.step (s1.tr s2) fun w ρ2 g2 y G3 H3 s3 F3 r3 => ?_)
    split at g2
    · rename_i x y' e1 e2
      obtain ⟨ev, e3, g3⟩ := g2.of
      exact hr _ _ _ _ ⟨G3, x, y', ev, F3.gh, F3.rdh (r2.up s3) e1, F3.rde r3 e2, e3, give g3 ((s1.tr s2).tr s3) F3 (hf _ _ _ e3).1 (hf _ _ _ e3).2⟩
    · exact g2.elim

theorem binD_ok (op : Operator) : ∀ x y u, binD op x y = some u → (∀ i, u ≠ .b i) ∧ (∀ k, u ≠ .o (.dct k)) ∧ ∀ c y, u ≠ .x c y := by
  intro x y u h
  unfold binD at h
  split at h <;> (try split at h) <;> cases h <;> exact ⟨(by intro _ z; cases z), (by intro _ z; cases z), (by intro _ _ z; cases z)⟩
theorem se_bin {op : Operator} (iha : SE U C cA X a xa) (ihb : SE U C cA X b xb) : SE U C cA X (.BinOp a op b pos) (.bin op xa xb) := by
  intro W tk
  obtain ⟨ta, tb, pa, pb, h⟩ := two iha ihb (r := rBin X.K op) (f := binD op) (binD_ok op) (fun _ _ _ _ z => z) W tk
  exact ⟨_, pe_op (op_bin op) pa pb, fun B A G H σ ρ Q F g => h B A G H σ ρ Q F g⟩
theorem map_ok {o : Option Bool} : ∀ u, (o.map fun b => EV.d (.bool b)) = some u → (∀ i, u ≠ .b i) ∧ (∀ k, u ≠ .o (.dct k)) ∧ ∀ c y, u ≠ .x c y := by
  intro u h
  obtain ⟨b, _, rfl⟩ := map_some h
  exact ⟨(by intro _ z; cases z), (by intro _ z; cases z), (by intro _ _ z; cases z)⟩
/-- two parts, then what they are worth, read or not -/
theorem twoO (iha : SE U C cA X a xa) (ihb : SE U C cA X b xb) {r : R2} {f : Rho → EV → EV → Out EV}
    (hr : ∀ {W : WX} {B G0 G H : Hp} {A : Fix} {σ : L2.St} {ρ : Rho} {Q : V → Hp → Prop} {u w : EV} {x y : V}, Sub G0 G → FR X.K B A G H σ ρ → HR X.K G σ x u → RelEV X.K B G H σ ρ y w → FinV ⟨X.K, B, A, σ, W, cA⟩ G0 Q (f ρ u w) → r x y H Q) :
    ∀ W, Takes X W → ∃ ta tb, PE X a ta ∧ PE X b tb ∧ ∀ B A G H σ ρ Q, FR X.K B A G H σ ρ → FinV ⟨X.K, B, A, σ, W, cA⟩ G Q ((evE U C xa ρ).bind fun u ρ1 => match hold u with
      | none => .stuck
      | some u => (evE U C xb ρ1).bind fun v ρ2 => f ρ2 u v) → tOp r ta tb σ H Q := by
  intro W tk
  obtain ⟨ta, pa, ha⟩ := iha W tk
  obtain ⟨tb, pb, hb⟩ := ihb W tk
  refine ⟨ta, tb, pa, pb, fun B A G H σ ρ Q F g => ?_⟩
  refine ha B A G H σ ρ _ F (g.then fun u ρ1 g1 v G1 H1 s1 F1 r1 => ?_)
  cases hu : hold u with
  | none => simp only [hu] at g1; exact g1.elim
  | some u' =>
    simp only [hu] at g1
    obtain ⟨G2, s2, F2, r2⟩ := held F1 r1 hu
    exact hb B A G2 H1 σ ρ1 _ F2 (g1.step (s1.tr s2) fun w ρ2 g2 y G3 H3 s3 F3 r3 => hr ((s1.tr s2).tr s3) F3 (r2.up s3) r3 g2)
def rCmpK (K : Frg) (op : CmpOp) : R2 := fun x y H Q => rCmp K op x y H Q ∨ rInK K op x y H Q
theorem op_cmpK (hu : X.A.units + 100 < cLine) (op : CmpOp) : OpR X (compareOp op) (rCmpK X.K op) := by
  intro pins s σ H x y v u Q I rx ry h
  rcases h with h | h
  · exact op_cmp (by omega) op pins s σ H x y v u Q I rx ry h
  · exact op_inK hu op pins s σ H x y v u Q I rx ry h
theorem cmp_two {op : CmpOp} (iha : SE U C cA X a xa) (ihb : SE U C cA X b xb) : ∀ W, Takes X W → ∃ ta tb, PE X a ta ∧ PE X b tb ∧ ∀ B A G H σ ρ Q, FR X.K B A G H σ ρ → FinV ⟨X.K, B, A, σ, W, cA⟩ G Q (evE U C (.cmp op xa xb) ρ) → tOp (rCmpK X.K op) ta tb σ H Q := by
  intro W tk
  obtain ⟨ta, tb, pa, pb, h⟩ := twoO iha ihb (r := rCmpK X.K op) (f := fun ρ u v => cmpO op ρ u v) (fun {W B G0 G H A σ ρ Q u w x y} s F hu hw g => by
    dsimp only [cmpO] at g
    split at g
    · rename_i kvs e
      split at g
      · rename_i k e2
        obtain ⟨ev, e3, g3⟩ := Fin.of g
        obtain ⟨b, e4, rfl⟩ := map_some e3
        exact .inr ⟨G, kvs, k, b, F.gh, F.rdh hu e2, F.rke hw e, e4, g3 _ G H s F (.bl b)⟩
      · exact g.elim
    · split at g
      · rename_i x' y' e1 e2
        obtain ⟨ev, e3, g3⟩ := Fin.of g
        obtain ⟨b, e4, rfl⟩ := map_some e3
        exact .inl ⟨G, x', y', b, F.gh, F.rdh hu e1, F.rde hw e2, e4, g3 _ G H s F (.bl b)⟩
      · exact g.elim) W tk
  exact ⟨ta, tb, pa, pb, fun B A G H σ ρ Q F g => h B A G H σ ρ Q F g⟩
theorem se_cmp {op : CmpOp} (hu : X.A.units + 100 < cLine) (hm : behindInMarks op b = false) (iha : SE U C cA X a xa) (ihb : SE U C cA X b xb) : SE U C cA X (.Compare a [op] [b] pos) (.cmp op xa xb) := by
  intro W tk
  obtain ⟨ta, tb, pa, pb, h⟩ := cmp_two (op := op) iha ihb W tk
  exact ⟨_, pe_cmpR (op_cmpK hu op) pa pb hm, fun B A G H σ ρ Q F g => h B A G H σ ρ Q F g⟩
/-- a test's wish, of the value -/
theorem asB_v {Γ : Cn} {G : Hp} {Q : Bool → Hp → Prop} {o : Out EV} (h : FinB Γ G Q (asB o)) : FinV Γ G (fun x H' => ∃ k, x = .bl k ∧ Q k H') o := by
  refine h.bind.imp (fun u ρ g v G' H' s F r => ?_) fun _ _ _ z => z
  split at g
  · cases r; exact ⟨_, rfl, g G' H' s F⟩
  · exact g.elim
theorem asB_c {Γ : Cn} {G : Hp} {Q : Bool → Hp → Prop} {o : Out EV} (h : FinB Γ G Q (asB o)) : FinV Γ G (fun x H' => ∃ k, x = .bl k ∧ Q k H') o := asB_v h
theorem st_cmp {op : CmpOp} (hu : X.A.units + 100 < cLine) (hm : behindInMarks op b = false) (iha : SE U C cA X a xa) (ihb : SE U C cA X b xb) : ST U C cA X (.Compare a [op] [b] pos) (.cmp op xa xb) := by
  intro W tk
  obtain ⟨ta, tb, pa, pb, h⟩ := cmp_two (op := op) iha ihb W tk
  exact ⟨_, pt_cmpR (op_cmpK hu op) pa pb hm, fun B A G H σ ρ Q F g => h B A G H σ ρ _ F (asB_v g)⟩
theorem st_of (h : SE U C cA X e xa) (he : ∀ whole, isTrue e X.env whole = (do let v ← whole; standAt e.pos; holding [v] (truthy v))) : ST U C cA X e xa := by
  intro W tk
  obtain ⟨t, p, k⟩ := h W tk
  exact ⟨_, pt_val p he, fun B A G H σ ρ Q F g => k B A G H σ ρ _ F (asB_v g)⟩
theorem se_neg (ih : SE U C cA X a xa) : SE U C cA X (.UnaryOp .USub a pos) (.neg xa) := by
  intro W tk
  obtain ⟨t, p, h⟩ := ih W tk
  refine ⟨_, pe_un un_neg p, fun B A G H σ ρ Q F g => h B A G H σ ρ _ F (g.then fun u ρ1 g1 v G1 H1 s1 F1 r1 => ?_)⟩
  split at g1
  · cases r1; exact ⟨_, rfl, g1 _ G1 H1 s1 F1 (.int _)⟩
  · exact g1.elim
/-! ### truth -/
theorem not_v {Γ : Cn} {G : Hp} {Q : V → Hp → Prop} {o : Out EV} (h : FinV Γ G Q ((asB o).bind fun b ρ1 => .ok (.d (.bool (!b))) ρ1)) : FinB Γ G (fun b H' => Q (.bl (!b)) H') (asB o) :=
  h.bind.imp (fun u ρ g G' H' s F => g _ G' H' s F (.bl _)) fun _ _ _ z => z
theorem se_not (ih : SE U C cA X a xa) : SE U C cA X (.UnaryOp .Not a pos) (.lnot xa) := by
  intro W tk
  obtain ⟨t, p, h⟩ := ih W tk
  refine ⟨_, pe_not p, fun B A G H σ ρ Q F g => h B A G H σ ρ _ F ?_⟩
  have q := asB_v (not_v g)
  exact q.imp (fun u ρ z v G' H' s F r => let ⟨k, e, z'⟩ := z v G' H' s F r; ⟨k, e, z'⟩) fun _ _ _ z => z
theorem st_not (ih : ST U C cA X a xa) : ST U C cA X (.UnaryOp .Not a pos) (.lnot xa) := by
  intro W tk
  obtain ⟨t, p, h⟩ := ih W tk
  refine ⟨_, pt_not p, fun B A G H σ ρ Q F g => h B A G H σ ρ _ F ?_⟩
  have q := asB_v g
  have q2 := not_v q
  exact q2.imp (fun u ρ z G' H' s F => by
    obtain ⟨k, e, z'⟩ := z G' H' s F
    cases e; exact z') fun _ _ _ z => z
theorem se_ite (ihc : ST U C cA X c xc) (iha : SE U C cA X a xa) (ihb : SE U C cA X b xb) : SE U C cA X (.IfExp c a b pos) (.ite xc xa xb) := by
  intro W tk
  obtain ⟨tc, pc, hc⟩ := ihc W tk
  obtain ⟨ta, pa, ha⟩ := iha W tk
  obtain ⟨tb, pb, hb⟩ := ihb W tk
  refine ⟨_, pe_ifExp pc pa pb, fun B A G H σ ρ Q F g => hc B A G H σ ρ _ F (g.then fun u ρ1 g1 G1 H1 s1 F1 => ?_)⟩
  cases u with
  | true => exact ha B A G1 H1 σ ρ1 Q F1 (FinV.up g1 s1)
  | false => exact hb B A G1 H1 σ ρ1 Q F1 (FinV.up g1 s1)
theorem so_one {op : BoolOp} {o : Rho → Out EV} (ih : SO cA X a o) : SO cA X (.BoolOp op [a] pos) o := by
  intro W tk
  obtain ⟨t, p, h⟩ := ih W tk
  exact ⟨_, pe_one p, h⟩
theorem so_and {r : List Expr} {o2 : Rho → Out EV} (ih : SE U C cA X a xa) (ihr : SO cA X (.BoolOp .And (b :: r) pos) o2) :
    SO cA X (.BoolOp .And (a :: b :: r) pos) (fun ρ => (asB (evE U C xa ρ)).bind fun t ρ1 => if t then o2 ρ1 else .ok (.d (.bool false)) ρ1) := by
  intro W tk
  obtain ⟨ta, pa, ha⟩ := ih W tk
  obtain ⟨tb, pb, hb⟩ := ihr W tk
  refine ⟨_, pe_and pa pb, fun B A G H σ ρ Q F g => ha B A G H σ ρ _ F ?_⟩
  have q : FinB ⟨X.K, B, A, σ, W, cA⟩ G (fun c H1 => if c = true then tb σ H1 Q else Q (.bl false) H1) (asB (evE U C xa ρ)) := g.then fun u ρ1 g1 G1 H1 s1 F1 => by
    cases u with
    | true => exact hb B A G1 H1 σ ρ1 Q F1 (FinV.up g1 s1)
    | false => exact g1 _ G1 H1 s1 F1 (.bl _)
  exact (asB_v q).imp (fun u ρ z v G' H' s F r => let ⟨k, e, z'⟩ := z v G' H' s F r; ⟨k, e, z'⟩) fun _ _ _ z => z
theorem so_or {r : List Expr} {o2 : Rho → Out EV} (ih : SE U C cA X a xa) (ihr : SO cA X (.BoolOp .Or (b :: r) pos) o2) :
    SO cA X (.BoolOp .Or (a :: b :: r) pos) (fun ρ => (asB (evE U C xa ρ)).bind fun t ρ1 => if t then .ok (.d (.bool true)) ρ1 else o2 ρ1) := by
  intro W tk
  obtain ⟨ta, pa, ha⟩ := ih W tk
  obtain ⟨tb, pb, hb⟩ := ihr W tk
  refine ⟨_, pe_or pa pb, fun B A G H σ ρ Q F g => ha B A G H σ ρ _ F ?_⟩
  have q : FinB ⟨X.K, B, A, σ, W, cA⟩ G (fun c H1 => if c = true then Q (.bl true) H1 else tb σ H1 Q) (asB (evE U C xa ρ)) := g.then fun u ρ1 g1 G1 H1 s1 F1 => by
    cases u with
    | true => exact g1 _ G1 H1 s1 F1 (.bl _)
    | false => exact hb B A G1 H1 σ ρ1 Q F1 (FinV.up g1 s1)
  exact (asB_v q).imp (fun u ρ z v G' H' s F r => let ⟨k, e, z'⟩ := z v G' H' s F r; ⟨k, e, z'⟩) fun _ _ _ z => z
theorem sw_and1 {o : Rho → Out Bool} (ih : TO cA X a o) : SW cA X (.BoolOp .And [a] pos) o := by
  intro W tk
  obtain ⟨t, p, h⟩ := ih W tk
  exact ⟨_, pw_and1 p, h⟩
theorem sw_or1 {o : Rho → Out Bool} (ih : TO cA X a o) : SW cA X (.BoolOp .Or [a] pos) o := by
  intro W tk
  obtain ⟨t, p, h⟩ := ih W tk
  exact ⟨_, pw_or1 p, h⟩
theorem sw_and {r : List Expr} {o o2 : Rho → Out Bool} (ih : TO cA X a o) (ihr : SW cA X (.BoolOp .And (b :: r) pos) o2) :
    SW cA X (.BoolOp .And (a :: b :: r) pos) (fun ρ => (o ρ).bind fun t ρ1 => if t then o2 ρ1 else .ok false ρ1) := by
  intro W tk
  obtain ⟨ta, pa, ha⟩ := ih W tk
  obtain ⟨tb, pb, hb⟩ := ihr W tk
  refine ⟨_, pw_and pa pb, fun B A G H σ ρ Q F g => ha B A G H σ ρ _ F (g.then fun u ρ1 g1 G1 H1 s1 F1 => ?_)⟩
  cases u with
  | true => exact hb B A G1 H1 σ ρ1 Q F1 (FinB.up g1 s1)
  | false => exact g1 G1 H1 s1 F1
theorem sw_or {r : List Expr} {o o2 : Rho → Out Bool} (ih : TO cA X a o) (ihr : SW cA X (.BoolOp .Or (b :: r) pos) o2) :
    SW cA X (.BoolOp .Or (a :: b :: r) pos) (fun ρ => (o ρ).bind fun t ρ1 => if t then .ok true ρ1 else o2 ρ1) := by
  intro W tk
  obtain ⟨ta, pa, ha⟩ := ih W tk
  obtain ⟨tb, pb, hb⟩ := ihr W tk
  refine ⟨_, pw_or pa pb, fun B A G H σ ρ Q F g => ha B A G H σ ρ _ F (g.then fun u ρ1 g1 G1 H1 s1 F1 => ?_)⟩
  cases u with
  | true => exact g1 G1 H1 s1 F1
  | false => exact hb B A G1 H1 σ ρ1 Q F1 (FinB.up g1 s1)
theorem to_of {o : Rho → Out Bool} (h : SW cA X e o) : TO cA X e o := fun W tk => let ⟨t, p, k⟩ := h W tk; ⟨t, p.pt, k⟩

/-! ### chains -/
theorem chain_v (iha : SE U C cA X a xa) (ihb : SE U C cA X b xb) (ihc : SE U C cA X c xc) {o1 o2 : CmpOp} : ∀ W, Takes X W → ∃ ta tb tc, PE X a ta ∧ PE X b tb ∧ PE X c tc ∧ ∀ B A G H σ ρ Q, FR X.K B A G H σ ρ →
    FinV ⟨X.K, B, A, σ, W, cA⟩ G Q (evE U C (.chain o1 o2 xa xb xc) ρ) → tChain (rCmp X.K o1) (rCmp X.K o2) ta tb tc σ H Q := by
  intro W tk
  obtain ⟨ta, pa, ha⟩ := iha W tk
  obtain ⟨tb, pb, hb⟩ := ihb W tk
  obtain ⟨tc, pc, hc⟩ := ihc W tk
  refine ⟨ta, tb, tc, pa, pb, pc, fun B A G H σ ρ Q F g => ?_⟩
  refine ha B A G H σ ρ _ F (g.then fun u ρ1 g1 v G1 H1 s1 F1 r1 => ?_)
  cases hu : hold u with
  | none => simp only [hu] at g1; exact g1.elim
  | some u' =>
    simp only [hu] at g1
    obtain ⟨G2, s2, F2, r2⟩ := held F1 r1 hu
    refine hb B A G2 H1 σ ρ1 _ F2 (g1.step (s1.tr s2) fun w ρ2 g2 y G3 H3 s3 F3 r3 => ?_)
    cases hw : hold w with
    | none => simp only [hw] at g2; exact g2.elim
    | some w' =>
      simp only [hw] at g2
      obtain ⟨G4, s4, F4, r4⟩ := held F3 r3 hw
      split at g2
      · rename_i x' y' e1 e2
        have q1 := F4.rdh (r2.up (s3.tr s4)) e1
        have q2 := F4.rdh r4 e2
        split at g2
        · exact g2.elim
        · rename_i e3
          exact ⟨G4, x', y', false, F4.gh, q1, q2, e3, false, rfl, by rw [if_neg Bool.false_ne_true]; exact g2 _ G4 H3 ((s1.tr s2).tr (s3.tr s4)) F4 (.bl _)⟩
        · rename_i e3
          refine ⟨G4, x', y', true, F4.gh, q1, q2, e3, true, rfl, ?_⟩
          rw [if_pos rfl]
          refine hc B A G4 H3 σ ρ2 _ F4 (g2.step ((s1.tr s2).tr (s3.tr s4)) fun z ρ3 g3 zv G5 H5 s5 F5 r5 => ?_)
          split at g3
          · rename_i y2 z2 e4 e5
            obtain ⟨ev, e6, g4⟩ := g3.of
            obtain ⟨bb, e7, rfl⟩ := map_some e6
            exact ⟨G5, y2, z2, bb, F5.gh, F5.rdh (r4.up s5) e4, F5.rde r5 e5, e7, g4 _ G5 H5 (((s1.tr s2).tr (s3.tr s4)).tr s5) F5 (.bl _)⟩
          · exact g3.elim
      · exact g2.elim
theorem se_chain {o1 o2 : CmpOp} (hu : X.A.units + 65 < cLine) (hm : lastMarks [o1, o2] [b, c] = false) (iha : SE U C cA X a xa) (ihb : SE U C cA X b xb) (ihc : SE U C cA X c xc) : SE U C cA X (.Compare a [o1, o2] [b, c] pos) (.chain o1 o2 xa xb xc) := by
  intro W tk
  obtain ⟨ta, tb, tc, pa, pb, pc, h⟩ := chain_v iha ihb ihc (o1 := o1) (o2 := o2) W tk
  exact ⟨_, pe_chain (op_cmp hu o1) (op_cmp hu o2) pa pb pc hm, h⟩
theorem st_chain {o1 o2 : CmpOp} (hu : X.A.units + 65 < cLine) (hm : lastMarks [o1, o2] [b, c] = false) (iha : SE U C cA X a xa) (ihb : SE U C cA X b xb) (ihc : SE U C cA X c xc) : ST U C cA X (.Compare a [o1, o2] [b, c] pos) (.chain o1 o2 xa xb xc) := by
  intro W tk
  obtain ⟨ta, tb, tc, pa, pb, pc, h⟩ := chain_v iha ihb ihc (o1 := o1) (o2 := o2) W tk
  exact ⟨_, pt_chain (op_cmp hu o1) (op_cmp hu o2) pa pb pc hm, fun B A G H σ ρ Q F g => h B A G H σ ρ _ F (asB_v g)⟩

/-! ### items, parts -/
theorem idx_ok {o : Option PyData} : ∀ u, o.map EV.d = some u → (∀ i, u ≠ .b i) ∧ (∀ k, u ≠ .o (.dct k)) ∧ ∀ c y, u ≠ .x c y := by
  intro u h
  obtain ⟨b, _, rfl⟩ := map_some h
  exact ⟨(by intro _ z; cases z), (by intro _ z; cases z), (by intro _ _ z; cases z)⟩
def rIdxA (K : Frg) : R2 := fun x y H Q => rIdx K x y H Q ∨ rIdxK K x y H Q
theorem se_idx (hu : X.A.units + 100 < cLine) (iha : SE U C cA X a xa) (ihb : SE U C cA X b xb) (hs : PlainIx b) : SE U C cA X (.Subscript a b pos) (.idx xa xb) := by
  intro W tk
  obtain ⟨ta, tb, pa, pb, h⟩ := twoO iha ihb (r := rIdxA X.K) (f := fun ρ u v => idxO ρ u v) (fun {W B G0 G H A σ ρ Q u w x y} s F hu hw g => by
    dsimp only [idxO] at g
    split at g
    · rename_i kvs e
      split at g
      · rename_i k e2
        split at g
        · rename_i f
          obtain ⟨ev, e3, g3⟩ := Fin.of g
          obtain ⟨b, e4, rfl⟩ := map_some e3
          exact .inr ⟨G, kvs, k, b, F.gh, F.rkh hu e, F.rde hw e2, f, e4, fun v d => g3 v G H s F d⟩
        · exact g.elim
      · exact g.elim
    · split at g
      · rename_i x' y' e1 e2
        obtain ⟨ev, e3, g3⟩ := Fin.of g
        obtain ⟨b, e4, rfl⟩ := map_some e3
        exact .inl ⟨G, x', y', b, F.gh, F.rdh hu e1, F.rde hw e2, e4, fun v d => g3 v G H s F d⟩
      · exact g.elim) W tk
  exact ⟨_, pe_ix (IxR.or ix_idx (ix_dctK hu)) pa pb hs, fun B A G H σ ρ Q F g => h B A G H σ ρ Q F g⟩
end
end Ev

set_option Elab.async false
set_option linter.all false
set_option maxRecDepth 100000
/-! Displays, calls, built-in functions, methods. -/
namespace Ev
open PySem PySem.Spec PyProof.Rows L2

def PL (Γ : Cn) (G : Hp) (Q : List V → Hp → Prop) (xs : List PyData) (ρ : Rho) : Prop := ∀ vs G' H', Sub G G' → Γ.F G' H' ρ → DpAll Γ.K G' vs xs → Q vs H'
def PR (Γ : Cn) (G : Hp) (Q : List V → Hp → Prop) (us : List EV) (ρ : Rho) : Prop := ∀ vs G' H', Sub G G' → Γ.F G' H' ρ → Paired (HR Γ.K G' Γ.σ) vs us → Q vs H'
def AgR (K : Frg) (G : Hp) (σ : L2.St) (v : V) : Ag → Prop
  | .d x => Dp K G v x
  | .io i => σ[i]? = some (some v)
theorem AgR.up {K : Frg} {G G' : Hp} {σ : L2.St} {v : V} {u : Ag} (h : AgR K G σ v u) (s : Sub G G') : AgR K G' σ v u := by
  cases u with
  | d x => exact dp_up s h
  | io i => exact h
def PA' (Γ : Cn) (G : Hp) (Q : List V → Hp → Prop) (us : List Ag) (ρ : Rho) : Prop := ∀ vs G' H', Sub G G' → Γ.F G' H' ρ → Paired (AgR Γ.K G' Γ.σ) vs us → Q vs H'
section
variable (cA : Nat → Addr) (X : Cx)
/-- items of a display -/
def SL (es : List Expr) (o : Rho → Out (List PyData)) : Prop := ∀ W, Takes X W → ∃ t, PA X es t ∧ ∀ B A G H σ ρ Q, FR X.K B A G H σ ρ → Fin (PL ⟨X.K, B, A, σ, W, cA⟩ G Q) (PX ⟨X.K, B, A, σ, W, cA⟩ G) (o ρ) → t σ H Q
/-- arguments that are read -/
def SR (es : List Expr) (o : Rho → Out (List EV)) : Prop := ∀ W, Takes X W → ∃ t, PA X es t ∧ ∀ B A G H σ ρ Q, FR X.K B A G H σ ρ → Fin (PR ⟨X.K, B, A, σ, W, cA⟩ G Q) (PX ⟨X.K, B, A, σ, W, cA⟩ G) (o ρ) → t σ H Q
/-- arguments of a def -/
def SA (es : List Expr) (o : Rho → Out (List Ag)) : Prop := ∀ W, Takes X W → ∃ t, PA X es t ∧ ∀ B A G H σ ρ Q, FR X.K B A G H σ ρ → Fin (PA' ⟨X.K, B, A, σ, W, cA⟩ G Q) (PX ⟨X.K, B, A, σ, W, cA⟩ G) (o ρ) → t σ H Q
/-- keywords' values -/
def SK (ks : List Keyword) (o : Rho → Out (List Ag)) : Prop := ∀ W, Takes X W → ∃ t, PK X ks t ∧ ∀ B A G H σ ρ Q, FR X.K B A G H σ ρ → Fin (PA' ⟨X.K, B, A, σ, W, cA⟩ G Q) (PX ⟨X.K, B, A, σ, W, cA⟩ G) (o ρ) → t σ H Q
end
section
variable {U : Consts} {C : Calls} {cA : Nat → Addr} {X : Cx} {a b e : Expr} {es : List Expr} {xa xb : Ex} {xs : Exs} {pos : Pos}
theorem sl_nil : SL cA X [] (evals U C .nil) := fun W tk => ⟨_, pa_nil, fun B A G H σ ρ Q F g => g [] G H Sub.rfl F .nil⟩
theorem sl_cons (hs : starEach (e :: es) X.env = (false, eval e X.env) :: starEach es X.env) (ih : SE U C cA X e xa) (ihr : SL cA X es (evals U C xs)) : SL cA X (e :: es) (evals U C (.cons xa xs)) := by
  intro W tk
  obtain ⟨ta, pa, ha⟩ := ih W tk
  obtain ⟨tr, pr, hr⟩ := ihr W tk
  refine ⟨_, pa_cons pa pr hs, fun B A G H σ ρ Q F g => ha B A G H σ ρ _ F (g.then fun u ρ1 g1 v G1 H1 s1 F1 r1 => ?_)⟩
  obtain ⟨x, ρ2, G2, s2, F2, d, g2⟩ := Fin.frozen g1 F1 r1
  refine hr B A G2 H1 σ ρ2 _ F2 (g2.step (s1.tr s2) fun ys ρ3 g3 vs G3 H3 s3 F3 ds => ?_)
  exact g3 (v :: vs) G3 H3 ((s1.tr s2).tr s3) F3 (.cons (dp_up s3 d) ds)
theorem se_tup {k : Nat} (ih : SL cA X es (evals U C xs)) : SE U C cA X (.Tuple es k pos) (.tup xs) := by
  intro W tk
  obtain ⟨t, p, h⟩ := ih W tk
  refine ⟨_, pe_tup p, fun B A G H σ ρ Q F g => h B A G H σ ρ _ F (g.then fun ys ρ1 g1 vs G1 H1 s1 F1 d => ?_)⟩
  split at g1
  · rename_i hl
    refine ⟨by rw [dps_len d]; exact hl, fun q hq => ?_⟩
    have n := New.both (o := .tup vs) F1.gh hq
    exact g1 _ _ _ (s1.tr n.gg) (F1.new n) (.tup (.inl (.inl upd_same)) (dps_up n.gg d))
  · exact g1.elim
theorem se_lst (ih : SL cA X es (evals U C xs)) : SE U C cA X (.List es pos) (.lst xs) := by
  intro W tk
  obtain ⟨t, p, h⟩ := ih W tk
  refine ⟨_, pe_lst p, fun B A G H σ ρ Q F g => h B A G H σ ρ _ F (g.then fun ys ρ1 g1 vs G1 H1 s1 F1 d => ?_)⟩
  split at g1
  · rename_i hl
    refine ⟨by rw [dps_len d]; exact hl, fun q hq => ?_⟩
    have n := New.own (o := .lst vs) F1.gh hq
    exact g1 _ _ _ (s1.tr n.gg) (F1.new n) ⟨q, rfl, none_of_sub F1.gh hq, none_of_sub F1.bh hq, ⟨vs, upd_same, d⟩, F1.notOwn hq⟩
  · exact g1.elim

/-! ### slices -/
def OPart (cA : Nat → Addr) (X : Cx) (p : Option Expr) (o : Rho → Out (Option Int)) : Prop := ∀ W, Takes X W → ∃ t, PO X p t ∧ ∀ B A G H σ ρ Q, FR X.K B A G H σ ρ →
  Fin (fun (i : Option Int) ρ' => ∀ G' H', Sub G G' → FR X.K B A G' H' σ ρ' → Q i H') (PX ⟨X.K, B, A, σ, W, cA⟩ G) (o ρ) → t σ H Q
theorem op_none : OPart cA X none (evPart U C .nil) := fun W tk => ⟨_, po_none, fun B A G H σ ρ Q F g => g G H Sub.rfl F⟩
theorem op_some (ih : SE U C cA X a xa) : OPart cA X (some a) (evPart U C (.cons xa .nil)) := by
  intro W tk
  obtain ⟨t, p, h⟩ := ih W tk
  refine ⟨_, po_some p, fun B A G H σ ρ Q F g => h B A G H σ ρ _ F (g.then fun u ρ1 g1 v G1 H1 s1 F1 r1 => ?_)⟩
  split at g1
  · cases r1; exact ⟨_, rfl, g1 G1 H1 s1 F1⟩
  · exact g1.elim
theorem slcD_ok {x : PyData} {l h : Option Int} : ∀ u, slcD x l h = some u → (∀ i, u ≠ .b i) ∧ (∀ k, u ≠ .o (.dct k)) ∧ ∀ c y, u ≠ .x c y := by
  intro u e
  unfold slcD at e
  split at e
  · split at e <;> cases e <;> exact ⟨(by intro _ z; cases z), (by intro _ z; cases z), (by intro _ _ z; cases z)⟩
  · cases e
theorem se_slc {p2 : Pos} {lo hi : Option Expr} {xl xh : Exs} (ih : SE U C cA X a xa) (ihl : OPart cA X lo (evPart U C xl)) (ihh : OPart cA X hi (evPart U C xh)) : SE U C cA X (.Subscript a (.Slice lo hi none p2) pos) (.slc xa xl xh) := by
  intro W tk
  obtain ⟨ta, pa, ha⟩ := ih W tk
  obtain ⟨tl, pl, hl⟩ := ihl W tk
  obtain ⟨th, ph, hh⟩ := ihh W tk
  refine ⟨_, pe_slice sl_slc pa pl ph, fun B A G H σ ρ Q F g => ha B A G H σ ρ _ F (g.then fun u ρ1 g1 v G1 H1 s1 F1 r1 => ?_)⟩
  cases hu : hold u with
  | none => simp only [hu] at g1; exact g1.elim
  | some u' =>
    simp only [hu] at g1
    obtain ⟨G2, s2, F2, r2⟩ := held F1 r1 hu
    refine hl B A G2 H1 σ ρ1 _ F2 (g1.step (s1.tr s2) fun l ρ2 g2 G3 H3 s3 F3 => ?_)
    refine hh B A G3 H3 σ ρ2 _ F3 (g2.step ((s1.tr s2).tr s3) fun h ρ3 g3 G4 H4 s4 F4 => ?_)
    split at g3
    · rename_i x e1
      obtain ⟨ev, e3, g4⟩ := g3.of
      exact ⟨G4, x, ev, F4.gh, F4.rdh (r2.up (s3.tr s4)) e1, e3, give g4 (((s1.tr s2).tr s3).tr s4) F4 (slcD_ok _ e3).1 (slcD_ok _ e3).2⟩
    · exact g3.elim

/-! ### built-in functions -/
theorem sr_nil : SR cA X [] (evReads U C .nil) := fun W tk => ⟨_, pa_nil, fun B A G H σ ρ Q F g => g [] G H Sub.rfl F .nil⟩
theorem paired_imp {α β : Type} {P R : α → β → Prop} (f : ∀ a b, P a b → R a b) : ∀ {xs : List α} {ys : List β}, Paired P xs ys → Paired R xs ys
  | _, _, .nil => .nil
  | _, _, .cons h t => .cons (f _ _ h) (paired_imp f t)
theorem sr_cons (hs : starEach (e :: es) X.env = (false, eval e X.env) :: starEach es X.env) (ih : SE U C cA X e xa) (ihr : SR cA X es (evReads U C xs)) : SR cA X (e :: es) (evReads U C (.cons xa xs)) := by
  intro W tk
  obtain ⟨ta, pa, ha⟩ := ih W tk
  obtain ⟨tr, pr, hr⟩ := ihr W tk
  refine ⟨_, pa_cons pa pr hs, fun B A G H σ ρ Q F g => ha B A G H σ ρ _ F (g.then fun u ρ1 g1 v G1 H1 s1 F1 r1 => ?_)⟩
  cases hu : hold u with
  | none => simp only [hu] at g1; exact g1.elim
  | some u' =>
    simp only [hu] at g1
    obtain ⟨G2, s2, F2, r2⟩ := held F1 r1 hu
    refine hr B A G2 H1 σ ρ1 _ F2 (g1.step (s1.tr s2) fun ys ρ3 g3 vs G3 H3 s3 F3 ds => ?_)
    exact g3 (v :: vs) G3 H3 ((s1.tr s2).tr s3) F3 (.cons (r2.up s3) ds)
theorem rdvs {K : Frg} {B G H : Hp} {A : Fix} {σ : L2.St} {ρ : Rho} (F : FR K B A G H σ ρ) : ∀ {us : List EV} {vs : List V} {ds : List PyData}, Paired (HR K G σ) vs us → us.mapM (rd ρ) = some ds → RdVs K G H vs ds
  | [], _, _, h, e => by
    cases h
    simp at e; subst e
    exact .nil
  | u :: us, _, _, h, e => by
    cases h with
    | cons h1 h2 =>
      rw [List.mapM_cons] at e
      cases q : rd ρ u with
      | none => rw [q] at e; cases e
      | some d =>
        rw [q] at e
        cases q2 : us.mapM (rd ρ) with
        | none => rw [q2] at e; cases e
        | some ds =>
          rw [q2] at e
          cases e
          exact .cons (F.rdh h1 q) (rdvs F h2 q2)
theorem bltD_ok {f : Blt} {ds : List PyData} : ∀ u, bltD f ds = some u → (∀ i, u ≠ .b i) ∧ (∀ k, u ≠ .o (.dct k)) ∧ ∀ c y, u ≠ .x c y := by
  intro u e
  have fin : ∀ d, (∀ i, (EV.d d) ≠ .b i) ∧ (∀ k, (EV.d d) ≠ .o (.dct k)) ∧ ∀ c y, (EV.d d) ≠ .x c y := fun d => ⟨(by intro _ z; cases z), (by intro _ z; cases z), (by intro _ _ z; cases z)⟩
  have fin2 : ∀ d, (∀ i, (EV.o (.lst d)) ≠ .b i) ∧ (∀ k, (EV.o (.lst d)) ≠ .o (.dct k)) ∧ ∀ c y, (EV.o (.lst d)) ≠ .x c y := fun d => ⟨(by intro _ z; cases z), (by intro _ z; cases z), (by intro _ _ z; cases z)⟩
  cases f <;> simp only [bltD, lenD, absD, intD, maxD, minD, allD, anyD, sumD, tupleD, listD, reprD, sortedD] at e
  all_goals (split at e)
  all_goals (try (split at e))
  all_goals first
    | (cases e; exact fin _)
    | (cases e; exact fin2 _)
    | (cases e; done)
    | (obtain ⟨b, _, rfl⟩ := map_some e; exact fin _)
theorem rdks {K : Frg} {B G H : Hp} {A : Fix} {σ : L2.St} {ρ : Rho} (F : FR K B A G H σ ρ) {us : List EV} {vs : List V} {kvs : List (PyData × PyData)} (h : Paired (HR K G σ) vs us) (e : us.mapM (rdk ρ) = some [kvs]) : ∃ x, vs = [x] ∧ RdK K G H x kvs := by
  cases h with
  | nil => simp at e
  | cons r t =>
    rename_i x u vs us
    simp only [List.mapM_cons, Option.bind_eq_bind, Option.bind_eq_some_iff, Option.pure_def, Option.some.injEq] at e
    obtain ⟨d, e1, ds, e2, e3⟩ := e
    cases e3
    cases t with
    | nil => exact ⟨x, rfl, F.rkh r e1⟩
    | cons r t =>
      simp only [List.mapM_cons, Option.bind_eq_bind, Option.bind_eq_some_iff, Option.pure_def, Option.some.injEq] at e2
      obtain ⟨_, _, _, _, e4⟩ := e2
      cases e4
theorem bltK_ok {f : Blt} {kvs : List (PyData × PyData)} : ∀ u, bltK f kvs = some u → (∀ i, u ≠ .b i) ∧ (∀ k, u ≠ .o (.dct k)) ∧ ∀ c y, u ≠ .x c y := by
  intro u e
  have fin : ∀ d, (∀ i, (EV.d d) ≠ .b i) ∧ (∀ k, (EV.d d) ≠ .o (.dct k)) ∧ ∀ c y, (EV.d d) ≠ .x c y := fun d => ⟨(by intro _ z; cases z), (by intro _ z; cases z), (by intro _ _ z; cases z)⟩
  have fin2 : ∀ d, (∀ i, (EV.o (.lst d)) ≠ .b i) ∧ (∀ k, (EV.o (.lst d)) ≠ .o (.dct k)) ∧ ∀ c y, (EV.o (.lst d)) ≠ .x c y := fun d => ⟨(by intro _ z; cases z), (by intro _ z; cases z), (by intro _ _ z; cases z)⟩
  cases f <;> simp only [bltK, sortedD] at e
  all_goals first
    | (cases e; done)
    | (cases e; exact fin _)
    | (split at e <;> cases e; exact fin2 _)
def rBltA (K : Frg) (f : Blt) : List V → Hp → VK → Prop := fun vs H Q => rBlt K f vs H Q ∨ rBltK K f vs H Q
theorem se_blt {f : Blt} {p : Pos} (hc : X.calm = true) (hgd : X.A.guards = some []) (hu : X.A.units + 100 < cLine) (hm : X.mg f.py = none) (hg : Gl X f.py)
    (he : starEach (e :: es) X.env = (false, eval e X.env) :: starEach es X.env) (hpl : (backTo pos (starEach es X.env)).any (·.1) = false)
    (ih : SR cA X (e :: es) (evReads U C xs)) : SE U C cA X (.Call (.Name f.py p) (e :: es) [] pos) (.blt f xs) := by
  intro W tk
  obtain ⟨t, pa, h⟩ := ih W tk
  have go : ∀ B A G H σ ρ Q, FR X.K B A G H σ ρ → FinV ⟨X.K, B, A, σ, W, cA⟩ G Q (evE U C (.blt f xs) ρ) → tCB (rBltA X.K f) t σ H Q := fun B A G H σ ρ Q F g => h B A G H σ ρ _ F (g.then fun us ρ1 g1 vs G1 H1 s1 F1 r1 => by
    split at g1
    · rename_i ds e1
      obtain ⟨ev, e2, g2⟩ := g1.of
      exact .inl ⟨G1, ds, ev, F1.gh, rdvs F1 r1 e1, e2, give g2 s1 F1 (bltD_ok _ e2).1 (bltD_ok _ e2).2⟩
    · split at g1
      · rename_i kvs e1
        obtain ⟨ev, e2, g2⟩ := g1.of
        obtain ⟨x, rfl, hk⟩ := rdks F1 r1 e1
        exact .inr ⟨G1, x, kvs, ev, F1.gh, rfl, hk, e2, give g2 s1 F1 (bltK_ok _ e2).1 (bltK_ok _ e2).2⟩
      · exact g1.elim)
  have c : CallR X f.val (rBltA X.K f) := fun pins s σ H xs us Q I r h => by
    rcases h with h | h
    · exact cr_blt (X := X) hc hgd hu f pins s σ H xs us Q I r h
    · exact cr_bltK (X := X) hc hu f pins s σ H xs us Q I r h
  have bt := f.boot
  have nm : f.py ≠ "__name__" := by cases f <;> decide
  have db : (f.py == ("__debug__" : Str)) = false := by cases f <;> decide
  unfold Blt.val at c bt
  cases hty : f.isTy with
  | true =>
    rw [hty, if_pos rfl] at c bt
    exact ⟨_, pe_callTy c hg hm bt pa nm db he hpl, go⟩
  | false =>
    rw [hty, if_neg Bool.false_ne_true] at c bt
    exact ⟨_, pe_callB c hg hm bt pa nm db he hpl, go⟩

/-! ### isinstance -/
theorem ty_rd {K : Frg} {H : Hp} {v : V} {d : PyData} (h : Dp K H v d) (T : Ty) : ∃ t, TyX K H v (.type t) ∧ PySem.W.kitOne K (.type t) (.type T.name) = some (isA T d) := by
  cases h with
  | non => exact ⟨_, .base .non, by cases T <;> first | exact kit_ty (r := true) (by decide +kernel) | exact kit_ty (r := false) (by decide +kernel)⟩
  | bl b => exact ⟨_, .base (.bl b), by cases T <;> first | exact kit_ty (r := true) (by decide +kernel) | exact kit_ty (r := false) (by decide +kernel)⟩
  | int i => exact ⟨_, .base (.int i), by cases T <;> first | exact kit_ty (r := true) (by decide +kernel) | exact kit_ty (r := false) (by decide +kernel)⟩
  | str x => exact ⟨_, .base (.str x), by cases T <;> first | exact kit_ty (r := true) (by decide +kernel) | exact kit_ty (r := false) (by decide +kernel)⟩
  | lst h1 h2 =>
    refine ⟨"list", ?_, by cases T <;> first | exact kit_ty (r := true) (by decide +kernel) | exact kit_ty (r := false) (by decide +kernel)⟩
    rcases h1 with (h1 | ⟨o, h1⟩) | ⟨o, its, n, h1, h3, _⟩
    · exact .base (.lst h1)
    · exact .base (.frz h1)
    · exact .kList h1 h3
  | tup h1 h2 =>
    refine ⟨"tuple", ?_, by cases T <;> first | exact kit_ty (r := true) (by decide +kernel) | exact kit_ty (r := false) (by decide +kernel)⟩
    rcases h1 with (h1 | ⟨o, h1⟩) | ⟨o, its, n, h1, h3, _⟩
    · exact .base (.tup h1)
    · exact .fTuple h1
    · exact .kTuple h1 h3
  | dic h1 => exact ⟨"dict", .base (.dK h1), by cases T <;> first | exact kit_ty (r := true) (by decide +kernel) | exact kit_ty (r := false) (by decide +kernel)⟩
theorem Ty.boot (T : Ty) : bootBuiltins T.name = some (.type T.name) := by cases T <;> decide +kernel
theorem boot_isi : bootBuiltins "isinstance" = some (.builtin "isinstance") := by decide +kernel
theorem se_isi {T : Ty} {p q : Pos} (hm : X.mg "isinstance" = none) (hg : Gl X "isinstance") (hm2 : X.mg T.name = none) (hg2 : Gl X T.name)
    (hs : starEach [e, .Name T.name q] X.env = (false, eval e X.env) :: starEach [.Name T.name q] X.env) (ih : SE U C cA X e xa) : SE U C cA X (.Call (.Name "isinstance" p) [e, .Name T.name q] [] pos) (.isi T xa) := by
  intro W tk
  obtain ⟨t, pa, h⟩ := ih W tk
  have nm : (T.name : Str) ≠ "__name__" := by cases T <;> decide
  have db : ((T.name : Str) == ("__debug__" : Str)) = false := by cases T <;> decide
  have pT : PE X (.Name T.name q) (tC (.ty T.name)) := pe_bltn hg2 hm2 T.boot rfl nm db
  refine ⟨_, pe_callB call_isi hg hm boot_isi (pa_cons pa (pa_cons pT pa_nil) hs) (by decide) (by decide) hs rfl, fun B A G H σ ρ Q F g => h B A G H σ ρ _ F (g.then fun u ρ1 g1 v G1 H1 s1 F1 r1 => ?_)⟩
  split at g1
  · rename_i d e1
    obtain ⟨t', h1, h2⟩ := ty_rd ((F1.rde r1 e1).dp F1.gh) T
    exact ⟨v, .ty T.name, _, _, _, rfl, .ty T.name, h1, h2, g1 _ G1 H1 s1 F1 (.bl _)⟩
  · exact g1.elim
end
end Ev

set_option Elab.async false
set_option linter.all false
set_option maxRecDepth 100000
/-! The call of a def. -/
namespace Ev
open PySem PySem.Spec PyProof.Rows L2
open Classical

def AgAv (ρ : Rho) (g : Ag) (a : AV) : Prop := match g with
  | .d x => a = .d x
  | .io s => (∃ p c, get ρ s = .o p false c ∧ a = .o c) ∨ (∃ x, get ρ s = .d x ∧ a = .d x) ∨ ∃ c x, get ρ s = .x c x ∧ a = .x c x
theorem avs_of {ρ : Rho} : ∀ {ags : List Ag} {avs : List AV}, Ag.avs ρ ags = some avs → Paired (AgAv ρ) ags avs
  | [], _, h => by cases h; exact .nil
  | .d x :: r, _, h => by
    simp only [Ag.avs] at h
    obtain ⟨l, e, rfl⟩ := map_some h
    exact .cons rfl (avs_of e)
  | .io s :: r, _, h => by
    simp only [Ag.avs] at h
    split at h
    · rename_i p c q
      obtain ⟨l, e, rfl⟩ := map_some h
      exact .cons (.inl ⟨p, c, q, rfl⟩) (avs_of e)
    · rename_i x q
      obtain ⟨l, e, rfl⟩ := map_some h
      exact .cons (.inr (.inl ⟨x, q, rfl⟩)) (avs_of e)
    · rename_i c x q
      obtain ⟨l, e, rfl⟩ := map_some h
      exact .cons (.inr (.inr ⟨c, x, q, rfl⟩)) (avs_of e)
    · cases h
theorem paired_get {α β : Type} {P : α → β → Prop} : ∀ {xs : List α} {ys : List β} {i : Nat} {y : β}, Paired P xs ys → ys[i]? = some y → ∃ x, xs[i]? = some x ∧ P x y
  | _, _, _, _, .nil, e => by simp at e
  | _, _, 0, _, .cons h t, e => by simp at e; subst e; exact ⟨_, by simp, h⟩
  | _, _, i + 1, _, .cons h t, e => by
    obtain ⟨x, a, b⟩ := paired_get (i := i) t (by simpa using e)
    exact ⟨x, by simpa using a, b⟩
theorem paired_getL {α β : Type} {P : α → β → Prop} : ∀ {xs : List α} {ys : List β} {i : Nat} {x : α}, Paired P xs ys → xs[i]? = some x → ∃ y, ys[i]? = some y ∧ P x y
  | _, _, _, _, .nil, e => by simp at e
  | _, _, 0, _, .cons h t, e => by simp at e; subst e; exact ⟨_, by simp, h⟩
  | _, _, i + 1, _, .cons h t, e => by
    obtain ⟨x, a, b⟩ := paired_getL (i := i) t (by simpa using e)
    exact ⟨x, by simpa using a, b⟩
theorem mem_slots {s : Nat} : ∀ {ags : List Ag} {i : Nat}, ags[i]? = some (.io s) → s ∈ Ag.slots ags
  | [], _, h => by simp at h
  | .d x :: r, 0, h => by simp at h
  | .io t :: r, 0, h => by simp at h; subst h; simp [Ag.slots]
  | .d x :: r, i + 1, h => by simp only [Ag.slots]; exact mem_slots (i := i) (by simpa using h)
  | .io t :: r, i + 1, h => by simp only [Ag.slots]; exact List.mem_cons_of_mem _ (mem_slots (i := i) (by simpa using h))
theorem slots_inj {s : Nat} : ∀ {ags : List Ag} {i j : Nat}, (Ag.slots ags).Nodup → ags[i]? = some (.io s) → ags[j]? = some (.io s) → i = j
  | [], _, _, _, h, _ => by simp at h
  | g :: r, 0, 0, _, _, _ => rfl
  | g :: r, 0, j + 1, n, h1, h2 => by
    simp at h1; subst h1
    simp only [Ag.slots] at n
    exact absurd (mem_slots (i := j) (by simpa using h2)) (List.nodup_cons.mp n).1
  | g :: r, i + 1, 0, n, h1, h2 => by
    simp at h2; subst h2
    simp only [Ag.slots] at n
    exact absurd (mem_slots (i := i) (by simpa using h1)) (List.nodup_cons.mp n).1
  | g :: r, i + 1, j + 1, n, h1, h2 => by
    have n' : (Ag.slots r).Nodup := by
      cases g with
      | d x => simpa only [Ag.slots] using n
      | io t => simp only [Ag.slots] at n; exact (List.nodup_cons.mp n).2
    have := slots_inj (i := i) (j := j) n' (by simpa using h1) (by simpa using h2)
    omega
theorem back_of : ∀ {ags : List Ag} {fin : List Vr} {ρ ρ' : Rho}, (Ag.slots ags).Nodup → Ag.back ags fin ρ = some ρ' → ρ'.length = ρ.length ∧ (∀ s, s ∉ Ag.slots ags → get ρ' s = get ρ s) ∧
    ∀ (i s : Nat), ags[i]? = some (.io s) → (∃ p l c p' l' c', get ρ s = .o p l c ∧ fin[i]? = some (.o p' l' c') ∧ get ρ' s = .o p l c') ∨ (get ρ' s = get ρ s ∧ ∀ p l c, get ρ s ≠ .o p l c)
  | [], _, _, _, _, h => by
    simp only [Ag.back] at h; cases h
    exact ⟨rfl, fun _ _ => rfl, fun i s e => by simp at e⟩
  | .d x :: r, [], _, _, n, h => by simp [Ag.back] at h
  | .io x :: r, [], _, _, n, h => by simp [Ag.back] at h
  | .d x :: r, v :: vs, _, _, n, h => by
    simp only [Ag.back] at h
    simp only [Ag.slots] at n
    obtain ⟨h1, h2, h3⟩ := back_of n h
    refine ⟨h1, h2, fun i s e => ?_⟩
    cases i with
    | zero => simp at e
    | succ i =>
      have := h3 i s (by simpa using e)
      simpa using this
  | .io t :: r, v :: vs, ρ, ρ', n, h => by
    simp only [Ag.back] at h
    simp only [Ag.slots] at n
    obtain ⟨n1, n2⟩ := List.nodup_cons.mp n
    split at h
    · rename_i p l c p' l' c' q
      obtain ⟨h1, h2, h3⟩ := back_of n2 h
      have hl : t < ρ.length := get_lt (by rw [q]; simp)
      refine ⟨by rw [h1, len_set], fun s hs => ?_, fun i s e => ?_⟩
      · simp only [Ag.slots, List.mem_cons, not_or] at hs
        rw [h2 s hs.2, get_set_ne (Ne.symm hs.1)]
      · cases i with
        | zero =>
          simp at e; subst e
          exact .inl ⟨p, l, c, p', l', c', q, by simp, by rw [h2 _ n1, get_set_same hl]⟩
        | succ i =>
          have hm := mem_slots (ags := r) (i := i) (s := s) (by simpa using e)
          have ne : t ≠ s := fun z => n1 (z ▸ hm)
          have := h3 i s (by simpa using e)
          rw [get_set_ne ne] at this
          simpa using this
    · rename_i x q
      obtain ⟨h1, h2, h3⟩ := back_of n2 h
      refine ⟨h1, fun s hs => ?_, fun i s e => ?_⟩
      · simp only [Ag.slots, List.mem_cons, not_or] at hs
        exact h2 s hs.2
      · cases i with
        | zero =>
          simp at e; subst e
          exact .inr ⟨h2 _ n1, fun p l c z => by rw [q] at z; cases z⟩
        | succ i =>
          have := h3 i s (by simpa using e)
          simpa using this
    · rename_i c0 x0 q
      obtain ⟨h1, h2, h3⟩ := back_of n2 h
      refine ⟨h1, fun s hs => ?_, fun i s e => ?_⟩
      · simp only [Ag.slots, List.mem_cons, not_or] at hs
        exact h2 s hs.2
      · cases i with
        | zero =>
          simp at e; subst e
          exact .inr ⟨h2 _ n1, fun p l c z => by rw [q] at z; cases z⟩
        | succ i =>
          have := h3 i s (by simpa using e)
          simpa using this
    · cases h

section
variable {K : Frg} {B G H : Hp} {A : Fix} {σ : L2.St} {ρ : Rho} {vs : List V} {ags : List Ag} {avs : List AV}
theorem av_at (F : FR K B A G H σ ρ) : ∀ {vs : List V} {ags : List Ag} {avs : List AV}, Paired (AgR K G σ) vs ags → Paired (AgAv ρ) ags avs → Paired (AvAt K G H) vs avs
  | _, _, _, .nil, .nil => .nil
  | _, _, _, .cons h1 t1, .cons h2 t2 => by
    refine .cons ?_ (av_at F t1 t2)
    rename_i v g vs' gs' a as'
    cases g with
    | d x => cases h2; exact h1
    | io s =>
      rcases h2 with ⟨p, c, e, rfl⟩ | ⟨x, e, rfl⟩ | ⟨c, x, e, rfl⟩
      · obtain ⟨a, k1, k2, k3, k4⟩ := F.own s p c e
        have q : σ[s]? = some (some v) := h1
        rw [k1] at q; cases q
        exact ⟨a, rfl, k2, k4⟩
      · obtain ⟨w, k1, k2⟩ := F.dat s x e
        have q : σ[s]? = some (some v) := h1
        rw [k1] at q; cases q
        exact k2
      · obtain ⟨w, k1, k2⟩ := F.exc s c x e
        have q : σ[s]? = some (some v) := h1
        rw [k1] at q; cases q
        exact k2
/-- a container that is handed in: whose slot's it is -/
theorem own_slot (h1 : Paired (AgR K G σ) vs ags) (h2 : Paired (AgAv ρ) ags avs) {i : Nat} {a : Addr} {c : Con} (e1 : vs[i]? = some (V.ref a)) (e2 : avs[i]? = some (AV.o c)) : ∃ s p, ags[i]? = some (.io s) ∧ get ρ s = .o p false c ∧ σ[s]? = some (some (.ref a)) := by
  obtain ⟨g, g1, g2⟩ := paired_get h2 e2
  cases g with
  | d x => cases g2
  | io s =>
    rcases g2 with ⟨p, c', e, z⟩ | ⟨x, e, z⟩ | ⟨_, x, e, z⟩
    · cases z
      obtain ⟨v, v1, v2⟩ := paired_get h1 g1
      rw [e1] at v1; cases v1
      exact ⟨s, p, g1, e, v2⟩
    · cases z
    · cases z
theorem slot_own (h1 : Paired (AgR K G σ) vs ags) (h2 : Paired (AgAv ρ) ags avs) {i s : Nat} {a : Addr} {p : Bool} {c : Con} (e : ags[i]? = some (.io s)) (e1 : get ρ s = .o p false c) (e2 : σ[s]? = some (some (.ref a))) : vs[i]? = some (V.ref a) ∧ avs[i]? = some (AV.o c) := by
  obtain ⟨v, v1, v2⟩ := paired_get h1 e
  obtain ⟨y, y1, y2⟩ := paired_getL h2 e
  have q : σ[s]? = some (some v) := v2
  rw [e2] at q; cases q
  refine ⟨v1, ?_⟩
  rcases y2 with ⟨p', c', q, rfl⟩ | ⟨x, q, rfl⟩ | ⟨_, x, q, rfl⟩
  · rw [e1] at q; cases q; exact y1
  · rw [e1] at q; cases q
  · rw [e1] at q; cases q
theorem dist_of (F : FR K B A G H σ ρ) (h1 : Paired (AgR K G σ) vs ags) (h2 : Paired (AgAv ρ) ags avs) (n : (Ag.slots ags).Nodup) : Dist vs avs := fun i j a c c' e1 e2 e3 e4 => by
  obtain ⟨s, p, q1, q2, q3⟩ := own_slot h1 h2 e1 e2
  obtain ⟨s', p', r1, r2, r3⟩ := own_slot h1 h2 e3 e4
  have := F.inj s s' p c p' c' _ q2 r2 q3 r3
  subst this
  exact slots_inj n q1 r1
theorem prot_B (F : FR K B A G H σ ρ) (h1 : Paired (AgR K G σ) vs ags) (h2 : Paired (AgAv ρ) ags avs) {a : Addr} {o : HO} (h : B a = some o) : prot G H vs avs a = some o := by
  refine prot_of ?_ ?_ (F.bh _ _ h)
  · cases q : G a with
    | none => rfl
    | some u => rw [F.gb a u q] at h; cases h
  · rintro ⟨i, c, e1, e2⟩
    obtain ⟨s, p, q1, q2, q3⟩ := own_slot h1 h2 e1 e2
    obtain ⟨b, k1, k2, k3, k4⟩ := F.own s p c q2
    rw [q3] at k1; cases k1
    rw [h] at k3; cases k3
theorem slots_of {s : Nat} : ∀ {ags : List Ag}, s ∈ Ag.slots ags → ∃ i : Nat, ags[i]? = some (Ag.io s)
  | [], h => by simp [Ag.slots] at h
  | .d x :: r, h => by
    simp only [Ag.slots] at h
    obtain ⟨i, e⟩ := slots_of h
    exact ⟨i + 1, by simpa using e⟩
  | .io t :: r, h => by
    simp only [Ag.slots, List.mem_cons] at h
    rcases h with rfl | h
    · exact ⟨0, by simp⟩
    · obtain ⟨i, e⟩ := slots_of h
      exact ⟨i + 1, by simpa using e⟩
/-- the frame behind a call -/
theorem FR.after {G' H' : Hp} {fin : List Vr} {ρ' : Rho} (F : FR K B A G H σ ρ) (h1 : Paired (AgR K G σ) vs ags) (h2 : Paired (AgAv ρ) ags avs) (n : (Ag.slots ags).Nodup) (af : Aft (prot G H vs avs) G G' H') (fa : FinAt K G' H' vs avs fin) (bk : Ag.back ags fin ρ = some ρ') : FR K B A G' H' σ ρ' := by
  obtain ⟨b1, b2, b3⟩ := back_of n bk
  -- what a slot was
  have was : ∀ s, (get ρ' s = get ρ s ∧ s ∉ Ag.slots ags) ∨ (∃ (i : Nat) (p l : Bool) (c : Con) (p' l' : Bool) (c' : Con), ags[i]? = some (Ag.io s) ∧ get ρ s = .o p l c ∧ fin[i]? = some (Vr.o p' l' c') ∧ get ρ' s = .o p l c') ∨ (get ρ' s = get ρ s ∧ ∀ p l c, get ρ s ≠ .o p l c) := fun s => by
    by_cases hs : s ∈ Ag.slots ags
    · obtain ⟨i, e⟩ := slots_of hs
      rcases b3 i s e with ⟨p, l, c, p', l', c', q1, q2, q3⟩ | q
      · exact .inr (.inl ⟨i, p, l, c, p', l', c', e, q1, q2, q3⟩)
      · exact .inr (.inr q)
    · exact .inl ⟨b2 s hs, hs⟩
  have un : ∀ s p l c, get ρ' s = .o p l c → ∃ c0, get ρ s = .o p l c0 := fun s p l c e => by
    rcases was s with ⟨z, _⟩ | ⟨i, p1, l1, c1, p', l', c', _, q1, _, q3⟩ | ⟨q1, q3⟩
    · exact ⟨c, z ▸ e⟩
    · rw [e] at q3; cases q3; exact ⟨c1, q1⟩
    · rw [q1] at e; exact absurd e (q3 _ _ _)
  refine ⟨by rw [b1]; exact F.len, af.gh, fun a o e => af.bh a o (prot_B F h1 h2 e), fun a o e => ?_, fun i x e => ?_, fun i p c e => ?_, fun i p c e => ?_, fun i k p c p' c' v e1 e2 => ?_, fun i c x e => ?_, fun i a p e => ?_, fun i p l c e q => ?_⟩
  · cases q : B a with
    | none => rfl
    | some u =>
      have z := af.gb a o e
      rw [prot_B F h1 h2 q] at z; cases z
  · have e' : get ρ i = .d x := by
      rcases was i with ⟨z, _⟩ | ⟨_, p1, l1, c1, p', l', c', _, q1, _, q3⟩ | ⟨q1, q3⟩
      · exact z ▸ e
      · rw [e] at q3; cases q3
      · exact q1 ▸ e
    obtain ⟨v, k1, k2⟩ := F.dat i x e'
    exact ⟨v, k1, dp_up af.gg k2⟩
  · rcases was i with ⟨z, hs⟩ | ⟨j, p1, l1, c1, p', l', c', q0, q1, q2, q3⟩ | ⟨q1, q3⟩
    · rw [z] at e
      obtain ⟨a, k1, k2, k3, k4⟩ := F.own i p c e
      obtain ⟨o, ho⟩ := k4.some
      have no : ¬ Own vs avs a := by
        rintro ⟨j, c', e1, e2⟩
        obtain ⟨s, p', r1, r2, r3⟩ := own_slot h1 h2 e1 e2
        have := F.inj i s p c p' c' _ e r2 k1 r3
        exact hs (this ▸ mem_slots r1)
      have pr := prot_of k2 no ho
      refine ⟨a, k1, ?_, k3, k4.up af.gg ((af.bh _ _ pr).trans ho.symm)⟩
      cases q : G' a with
      | none => rfl
      | some u => rw [af.gb a u q] at pr; cases pr
    · rw [e] at q3; cases q3
      obtain ⟨a, k1, k2, k3, k4⟩ := F.own i _ _ q1
      obtain ⟨m1, m2⟩ := slot_own h1 h2 q0 q1 k1
      obtain ⟨p2, l2, c2, f1, f2, f3⟩ := fa j a _ m1 m2
      rw [q2] at f1; cases f1
      exact ⟨a, k1, f2, k3, f3⟩
    · rw [q1] at e; exact absurd e (q3 _ _ _)
  · rcases was i with ⟨z, hs⟩ | ⟨j, p1, l1, c1, p', l', c', q0, q1, q2, q3⟩ | ⟨q1, q3⟩
    · rw [z] at e
      obtain ⟨a, ys, ws, k1, k2, k3, k4⟩ := F.lck i p c e
      exact ⟨a, ys, ws, k1, k2, k3, dps_up af.gg k4⟩
    · rw [e] at q3; cases q3
      obtain ⟨v, v1, v2⟩ := paired_get h1 q0
      obtain ⟨y, y1, y2⟩ := paired_getL h2 q0
      rcases y2 with ⟨p2, c2, z, _⟩ | ⟨x, z, _⟩ | ⟨_, x, z, _⟩ <;> (rw [q1] at z; cases z)
    · rw [q1] at e; exact absurd e (q3 _ _ _)
  · obtain ⟨c1, u1⟩ := un i _ _ _ e1
    obtain ⟨c2, u2⟩ := un k _ _ _ e2
    exact F.inj i k p c1 p' c2 v u1 u2
  · have e' : get ρ i = .x c x := by
      rcases was i with ⟨z, _⟩ | ⟨_, p1, l1, c1, p', l', c', _, q1, _, q3⟩ | ⟨q1, q3⟩
      · exact z ▸ e
      · rw [e] at q3; cases q3
      · exact q1 ▸ e
    obtain ⟨v, k1, k2⟩ := F.exc i c x e'
    exact ⟨v, k1, k2.up af.gg⟩
  · obtain ⟨k1, l, c, k2, k3⟩ := F.fix i a p e
    refine ⟨k1, ?_⟩
    rcases was i with ⟨z, hs⟩ | ⟨j, p1, l1, c1, p', l', c', q0, q1, q2, q3⟩ | ⟨q1, q3⟩
    · exact ⟨l, c, z.trans k2, k3⟩
    · rw [k2] at q1; cases q1; exact ⟨l, c', q3, k3⟩
    · exact absurd k2 (q3 _ _ _)
  · obtain ⟨c0, u⟩ := un i _ _ _ e
    exact F.fixd i p l c0 u q
theorem call_sp {Γ : Cn} {C : Calls} {np f : Nat} {Q : VK} {G0 : Hp} (F : Γ.F G H ρ) (h1 : Paired (AgR Γ.K G Γ.σ) vs ags) (hl : ∀ avs, C f avs ≠ .stuck → avs.length = np) (s : Sub G0 G) (g : FinV Γ G0 Q (callO C f ags ρ)) :
    SpF Γ.K Γ.cA C np f vs H Q (fun c d H' => Γ.W c d Γ.σ H') := by
  unfold callO at g
  split at g
  · rename_i n
    cases e : Ag.avs ρ ags with
    | none => simp only [e] at g; exact g.elim
    | some avs =>
      simp only [e] at g
      have h2 := avs_of e
      have len : vs.length = avs.length := by rw [Paired.length h1, Paired.length h2]
      refine ⟨G, avs, ?_, F.gh, av_at F h1 h2, dist_of F h1 h2 n, ?_⟩
      · rw [len]
        refine hl avs fun z => ?_
        rw [z] at g; exact g
      · cases q : C f avs with
        | stuck => simp only [q] at g; exact g
        | ret r fin =>
          simp only [q] at g
          intro v G' H' af fa ra
          cases b : Ag.back ags fin ρ with
          | none => simp only [b] at g; exact g.elim
          | some ρ' =>
            simp only [b] at g
            have F' := F.after h1 h2 n af fa b
            refine g v G' H' (s.tr af.gg) F' ?_
            cases r with
            | d x => exact ra
            | x c y => exact ra
            | o c =>
              obtain ⟨a, rfl, r1, r2, r3, r4⟩ := ra
              refine ⟨a, rfl, r1, ?_, r4, fun i p c' e1 e2 => ?_⟩
              · cases z : Γ.B a with
                | none => rfl
                | some u => rw [prot_B F h1 h2 z] at r2; cases r2
              · obtain ⟨b1, b2, b3⟩ := back_of n b
                by_cases hs : i ∈ Ag.slots ags
                · obtain ⟨j, ej⟩ := slots_of hs
                  rcases b3 j i ej with ⟨p1, l1, c1, p', l', c2, q1, q2, q3⟩ | ⟨q1, q3⟩
                  · rw [e1] at q3; cases q3
                    obtain ⟨m1, m2⟩ := slot_own h1 h2 ej q1 e2
                    exact r3 ⟨j, _, m1, m2⟩
                  · rw [q1] at e1; exact q3 _ _ _ e1
                · rw [b2 i hs] at e1
                  obtain ⟨a', k1, k2, k3, k4⟩ := F.own i p c' e1
                  rw [e2] at k1; cases k1
                  obtain ⟨o, ho⟩ := k4.some
                  rw [prot_of k2 r3 ho] at r2; cases r2
        | exc c x fin =>
          simp only [q] at g
          intro cls d G' H' af fa ea
          cases b : Ag.back ags fin ρ with
          | none => simp only [b] at g; exact g.elim
          | some ρ' =>
            simp only [b] at g
            exact g cls d G' H' (s.tr af.gg) (F.after h1 h2 n af fa b) ea
  · exact g.elim
end

section
variable {U : Consts} {C : Calls} {cA : Nat → Addr} {X : Cx} {e : Expr} {es : List Expr} {xa : Ex} {xr : As} {pos p : Pos}
theorem sa_nil : SA cA X [] (evAs U C .nil) := fun W tk => ⟨_, pa_nil, fun B A G H σ ρ Q F g => g [] G H Sub.rfl F .nil⟩
theorem sa_val (hs : starEach (e :: es) X.env = (false, eval e X.env) :: starEach es X.env) (ih : SE U C cA X e xa) (ihr : SA cA X es (evAs U C xr)) : SA cA X (e :: es) (evAs U C (.val xa xr)) := by
  intro W tk
  obtain ⟨ta, pa, ha⟩ := ih W tk
  obtain ⟨tr, pr, hr⟩ := ihr W tk
  refine ⟨_, pa_cons pa pr hs, fun B A G H σ ρ Q F g => ha B A G H σ ρ _ F (g.then fun u ρ1 g1 v G1 H1 s1 F1 r1 => ?_)⟩
  obtain ⟨x, ρ2, G2, s2, F2, d, g2⟩ := Fin.frozen g1 F1 r1
  refine hr B A G2 H1 σ ρ2 _ F2 (g2.step (s1.tr s2) fun ys ρ3 g3 vs G3 H3 s3 F3 ds => ?_)
  exact g3 (v :: vs) G3 H3 ((s1.tr s2).tr s3) F3 (.cons (dp_up s3 d) ds)
theorem slot_val {K : Frg} {B G H : Hp} {A : Fix} {σ : L2.St} {ρ : Rho} (F : FR K B A G H σ ρ) {i : Nat} (h : get ρ i ≠ .no) : ∃ v, σ[i]? = some (some v) := by
  cases e : get ρ i with
  | no => exact absurd e h
  | d x => obtain ⟨v, k, _⟩ := F.dat i x e; exact ⟨v, k⟩
  | x c x => obtain ⟨v, k, _⟩ := F.exc i c x e; exact ⟨v, k⟩
  | o p l c =>
    cases l with
    | false => obtain ⟨a, k, _⟩ := F.own i p c e; exact ⟨_, k⟩
    | true => obtain ⟨a, _, _, k, _⟩ := F.lck i p c e; exact ⟨_, k⟩
theorem sa_io {i : Nat} {x : Str} (h1 : X.N[i]? = some x) (h2 : Vis X.env.scope x) (h3 : (x == ("__debug__" : Str)) = false) (h4 : (x == ("__classdict__" : Str)) = false)
    (hs : starEach (.Name x pos :: es) X.env = (false, eval (.Name x pos) X.env) :: starEach es X.env) (ihr : SA cA X es (evAs U C xr)) : SA cA X (.Name x pos :: es) (evAs U C (.io i xr)) := by
  intro W tk
  obtain ⟨tr, pr, hr⟩ := ihr W tk
  refine ⟨_, pa_cons (pe_var h1 h2 h3 h4) pr hs, fun B A G H σ ρ Q F g => ?_⟩
  simp only [evAs] at g
  split at g
  · exact g.elim
  · rename_i q
    obtain ⟨v, hv⟩ := slot_val F (i := i) q
    refine ⟨v, hv, hr B A G H σ ρ _ F (g.then fun ys ρ3 g3 vs G3 H3 s3 F3 ds => ?_)⟩
    exact g3 (v :: vs) G3 H3 s3 F3 (.cons hv ds)
theorem sk_nil : SK cA X [] (evAs U C .nil) := fun W tk => ⟨_, pk_nil, fun B A G H σ ρ Q F g => g [] G H Sub.rfl F .nil⟩
theorem sk_val {nm : Option Str} {ks : List Keyword} (ih : SE U C cA X e xa) (ihr : SK cA X ks (evAs U C xr)) : SK cA X (⟨nm, e, p⟩ :: ks) (evAs U C (.val xa xr)) := by
  intro W tk
  obtain ⟨ta, pa, ha⟩ := ih W tk
  obtain ⟨tr, pr, hr⟩ := ihr W tk
  refine ⟨_, pk_cons pa pr, fun B A G H σ ρ Q F g => ha B A G H σ ρ _ F (g.then fun u ρ1 g1 v G1 H1 s1 F1 r1 => ?_)⟩
  obtain ⟨x, ρ2, G2, s2, F2, d, g2⟩ := Fin.frozen g1 F1 r1
  refine hr B A G2 H1 σ ρ2 _ F2 (g2.step (s1.tr s2) fun ys ρ3 g3 vs G3 H3 s3 F3 ds => ?_)
  exact g3 (v :: vs) G3 H3 ((s1.tr s2).tr s3) F3 (.cons (dp_up s3 d) ds)
variable {n f : Nat} {fa : Addr} {fd : FuncData} {ps : List Str} {x : Str}
theorem se_call (F : FOk X.prog X.w X.K X.mg X.base n fa fd ps (SpF X.K cA C ps.length f)) (hr : Room (n + 3) X.A) (hgd : X.A.guards = some []) (hl : ∀ avs, C f avs ≠ .stuck → avs.length = ps.length) (hg : Gl X x) (hm : X.mg x = some (.ref fa)) (hk : PySem.W.keepIn X.K (.ref fa) = true)
    (hb : ∀ (s : Shared) (us : List Value), us.length = ps.length → BindsTo s fd ⟨us, []⟩ (ps.zip us)) (hdb : (x == ("__debug__" : Str)) = false)
    (he : starEach (e :: es) X.env = (false, eval e X.env) :: starEach es X.env) (hpl : (backTo pos (starEach es X.env)).any (·.1) = false) (ih : SA cA X (e :: es) (evAs U C xr)) : SE U C cA X (.Call (.Name x p) (e :: es) [] pos) (.call f xr) := by
  intro W tk
  obtain ⟨t, pa, h⟩ := ih W tk
  exact ⟨_, pe_callX F hr hgd hg hm hk hb tk pa hdb he hpl, fun B A G H σ ρ Q F g => h B A G H σ ρ _ F (g.then fun ags ρ1 g1 vs G1 H1 s1 F1 r1 => call_sp F1 r1 hl s1 g1)⟩
theorem se_call0 (F : FOk X.prog X.w X.K X.mg X.base n fa fd ps (SpF X.K cA C ps.length f)) (hr : Room (n + 3) X.A) (hgd : X.A.guards = some []) (hl : ∀ avs, C f avs ≠ .stuck → avs.length = ps.length) (hg : Gl X x) (hm : X.mg x = some (.ref fa)) (hk : PySem.W.keepIn X.K (.ref fa) = true)
    (hb : ∀ (s : Shared) (us : List Value), us.length = ps.length → BindsTo s fd ⟨us, []⟩ (ps.zip us)) (hdb : (x == ("__debug__" : Str)) = false) : SE U C cA X (.Call (.Name x p) [] [] pos) (.call f .nil) := by
  intro W tk
  exact ⟨_, pe_callX0 F hr hgd hg hm hk hb tk hdb, fun B A G H σ ρ Q F g => call_sp F .nil hl Sub.rfl g⟩
theorem se_callK {ks : List Keyword} (F : FOk X.prog X.w X.K X.mg X.base n fa fd ps (SpF X.K cA C ps.length f)) (hr : Room (n + 3) X.A) (hgd : X.A.guards = some []) (hl : ∀ avs, C f avs ≠ .stuck → avs.length = ps.length) (hg : Gl X x) (hm : X.mg x = some (.ref fa)) (hk : PySem.W.keepIn X.K (.ref fa) = true)
    (hb : ∀ (s : Shared) (us : List Value), us.length = ps.length → BindsTo s fd ⟨[], ps.zip us⟩ (ps.zip us)) (hdb : (x == ("__debug__" : Str)) = false)
    (hall : (backToKw pos (keywordEach ks X.env)).all (·.1.isSome) = true) (hks : (backToKw pos (keywordEach ks X.env)).filterMap (·.1) = ps)
    (hpl : ((backTo pos (starEach [] X.env)).any (·.1) || (backToKw pos (keywordEach ks X.env)).any (·.1.isNone)) = false) (ih : SK cA X ks (evAs U C xr)) : SE U C cA X (.Call (.Name x p) [] ks pos) (.callK f xr) := by
  intro W tk
  obtain ⟨t, pa, h⟩ := ih W tk
  exact ⟨_, pe_callXK F hr hgd hg hm hk hb tk pa hdb hall hks hpl, fun B A G H σ ρ Q F g => h B A G H σ ρ _ F (g.then fun ags ρ1 g1 vs G1 H1 s1 F1 r1 => call_sp F1 r1 hl s1 g1)⟩
end
end Ev

set_option Elab.async false
set_option linter.all false
set_option maxRecDepth 100000
/-! Stores into slots; methods of lists; what is walked; comprehensions. -/
namespace Ev
open PySem PySem.Spec PyProof.Rows L2

section
variable {K : Frg} {B G H : Hp} {A : Fix} {σ : L2.St} {ρ : Rho}
theorem FR.noA (F : FR K B A G H σ ρ) {i : Nat} (h : open' ρ i = true) : A i = none := by
  cases q : A i with
  | none => rfl
  | some z =>
    obtain ⟨a, p⟩ := z
    obtain ⟨_, l, c, k2, k3⟩ := F.fix i a p q
    simp only [open', k2, Bool.and_eq_true] at h
    cases p <;> cases l <;> simp_all
def VrAt (K : Frg) (B G H : Hp) (σ : L2.St) (ρ : Rho) (i : Nat) (v : V) : Vr → Prop
  | .no => True
  | .d y => Dp K G v y
  | .x c y => XAt K G v c y
  | .o p l c => p = false ∧ l = false ∧ ∃ a, v = .ref a ∧ G a = none ∧ B a = none ∧ ConAt K G H a c ∧ ∀ j p c', j ≠ i → get ρ j = .o p false c' → σ[j]? ≠ some (some v)
theorem st_same {σ : L2.St} {i : Nat} {v : Option V} (h : i < σ.length) : (σ.set i v)[i]? = some v := by rw [List.getElem?_set_self h]
theorem st_ne {σ : L2.St} {i j : Nat} {v : Option V} (h : i ≠ j) : (σ.set i v)[j]? = σ[j]? := by rw [List.getElem?_set_ne h]
theorem FR.store (F : FR K B A G H σ ρ) {i : Nat} {v : V} {x : Vr} (ho : open' ρ i = true) (hx : VrAt K B G H σ ρ i v x) : FR K B A G H (σ.set i (some v)) (ρ.set i x) := by
  have hA := F.noA ho
  have hl : i < ρ.length := by
    simp only [open', Bool.and_eq_true, decide_eq_true_eq] at ho
    exact ho.1
  have hs : i < σ.length := by rw [← F.len]; exact hl
  refine ⟨by simp [F.len], F.gh, F.bh, F.gb, fun j y e => ?_, fun j p c e => ?_, fun j p c e => ?_, fun j k p c p' c' w e1 e2 q1 q2 => ?_, fun j c y e => ?_, fun j a p e => ?_, fun j p l c e q => ?_⟩
  · by_cases h : j = i
    · subst h; rw [get_set_same hl] at e; subst e
      exact ⟨v, st_same hs, hx⟩
    · rw [get_set_ne (Ne.symm h)] at e
      rw [st_ne (Ne.symm h)]
      exact F.dat j y e
  · by_cases h : j = i
    · subst h; rw [get_set_same hl] at e; subst e
      obtain ⟨_, _, a, rfl, k1, k2, k3, _⟩ := hx
      exact ⟨a, st_same hs, k1, k2, k3⟩
    · rw [get_set_ne (Ne.symm h)] at e
      rw [st_ne (Ne.symm h)]
      exact F.own j p c e
  · by_cases h : j = i
    · subst h; rw [get_set_same hl] at e; subst e
      obtain ⟨_, z, _⟩ := hx; cases z
    · rw [get_set_ne (Ne.symm h)] at e
      rw [st_ne (Ne.symm h)]
      exact F.lck j p c e
  · by_cases h : j = i
    · by_cases h' : k = i
      · rw [h, h']
      · exfalso
        subst h; rw [get_set_same hl] at e1; subst e1
        obtain ⟨_, _, a, rfl, k1, k2, k3, k4⟩ := hx
        rw [st_same hs] at q1; cases q1
        rw [get_set_ne (Ne.symm h')] at e2
        rw [st_ne (Ne.symm h')] at q2
        exact k4 k p' c' h' e2 q2
    · by_cases h' : k = i
      · exfalso
        subst h'; rw [get_set_same hl] at e2; subst e2
        obtain ⟨_, _, a, rfl, k1, k2, k3, k4⟩ := hx
        rw [st_same hs] at q2; cases q2
        rw [get_set_ne (Ne.symm h)] at e1
        rw [st_ne (Ne.symm h)] at q1
        exact k4 j p c h e1 q1
      · rw [get_set_ne (Ne.symm h)] at e1
        rw [get_set_ne (Ne.symm h')] at e2
        rw [st_ne (Ne.symm h)] at q1
        rw [st_ne (Ne.symm h')] at q2
        exact F.inj j k p c p' c' w e1 e2 q1 q2
  · by_cases h : j = i
    · subst h; rw [get_set_same hl] at e; subst e
      exact ⟨v, st_same hs, hx⟩
    · rw [get_set_ne (Ne.symm h)] at e
      rw [st_ne (Ne.symm h)]
      exact F.exc j c y e
  · have h : j ≠ i := fun z => by subst z; rw [hA] at e; cases e
    obtain ⟨k1, l, c, k2, k3⟩ := F.fix j a p e
    exact ⟨by rw [st_ne (Ne.symm h)]; exact k1, l, c, by rw [get_set_ne (Ne.symm h)]; exact k2, k3⟩
  · by_cases h : j = i
    · subst h; rw [get_set_same hl] at e; subst e
      obtain ⟨z1, z2, _⟩ := hx; subst z1; subst z2; cases q
    · rw [get_set_ne (Ne.symm h)] at e
      exact F.fixd j p l c e q
/-- the list of a slot changes -/
theorem FR.growK (F : FR K B A G H σ ρ) {i : Nat} {p : Bool} {a : Addr} {c0 c1 : Con} {o : HO} (e : get ρ i = .o p false c0) (hs : σ[i]? = some (some (.ref a))) (hd : ConAt K G (upd H a o) a c1) : FR K B A G (upd H a o) σ (ρ.set i (.o p false c1)) := by
  have hl : i < ρ.length := get_lt (by rw [e]; simp)
  obtain ⟨a', k1, k2, k3, k4⟩ := F.own i p _ e
  rw [hs] at k1; cases k1
  have neG : ∀ b o, G b = some o → b ≠ a := fun b o q z => by subst z; rw [k2] at q; cases q
  have neB : ∀ b o, B b = some o → b ≠ a := fun b o q z => by subst z; rw [k3] at q; cases q
  refine ⟨by simp [F.len], fun b o q => by rw [upd_ne (neG b o q)]; exact F.gh b o q, fun b o q => by rw [upd_ne (neB b o q)]; exact F.bh b o q, F.gb, fun j y z => ?_, fun j p' c z => ?_, fun j p' c z => ?_, fun j k p1 c p2 c' w e1 e2 q1 q2 => ?_, fun j c y z => ?_, fun j b p' z => ?_, fun j p' l c z q => ?_⟩
  · have h : j ≠ i := fun w => by subst w; rw [get_set_same hl] at z; cases z
    rw [get_set_ne (Ne.symm h)] at z
    exact F.dat j y z
  · by_cases h : j = i
    · subst h; rw [get_set_same hl] at z; cases z
      exact ⟨a, hs, k2, k3, hd⟩
    · rw [get_set_ne (Ne.symm h)] at z
      obtain ⟨b, m1, m2, m3, m4⟩ := F.own j p' c z
      have hb : b ≠ a := fun w => h (F.inj j i p' c p _ _ z e m1 (by rw [hs, w]))
      exact ⟨b, m1, m2, m3, m4.up Sub.rfl (upd_ne hb)⟩
  · have h : j ≠ i := fun w => by subst w; rw [get_set_same hl] at z; cases z
    rw [get_set_ne (Ne.symm h)] at z
    exact F.lck j p' c z
  · have un : ∀ (j : Nat) (q : Bool) (c : Con), get (ρ.set i (.o p false c1)) j = .o q false c → ∃ c0, get ρ j = .o q false c0 := fun j q c z => by
      by_cases h : j = i
      · subst h; rw [get_set_same hl] at z; cases z; exact ⟨_, e⟩
      · rw [get_set_ne (Ne.symm h)] at z; exact ⟨c, z⟩
    obtain ⟨c1, u1⟩ := un j _ _ e1
    obtain ⟨c2, u2⟩ := un k _ _ e2
    exact F.inj j k p1 c1 p2 c2 w u1 u2 q1 q2
  · have h : j ≠ i := fun w => by subst w; rw [get_set_same hl] at z; cases z
    rw [get_set_ne (Ne.symm h)] at z
    exact F.exc j c y z
  · obtain ⟨m1, l, c, m2, m3⟩ := F.fix j b p' z
    refine ⟨m1, ?_⟩
    by_cases h : j = i
    · subst h; rw [e] at m2; cases m2
      exact ⟨false, _, get_set_same hl, m3⟩
    · exact ⟨l, c, by rw [get_set_ne (Ne.symm h)]; exact m2, m3⟩
  · by_cases h : j = i
    · subst h; rw [get_set_same hl] at z; cases z
      exact F.fixd j _ _ _ e q
    · rw [get_set_ne (Ne.symm h)] at z
      exact F.fixd j p' l c z q
theorem FR.grow (F : FR K B A G H σ ρ) {i : Nat} {p : Bool} {a : Addr} {xs ys : List PyData} {vs : List V} (e : get ρ i = .o p false (.lst xs)) (hs : σ[i]? = some (some (.ref a))) (hd : DpAll K G vs ys) : FR K B A G (upd H a (.lst vs)) σ (ρ.set i (.o p false (.lst ys))) :=
  F.growK e hs ⟨vs, upd_same, hd⟩
theorem rel_after_grow {i : Nat} : True := trivial
end

/-! ### methods of a slot's list -/
def rExtA (K : Frg) : V → List V → Hp → VK → Prop := fun x vs H Q => ∃ l b xs zs, x = .ref l ∧ vs = [.ref b] ∧ H l = some (.lst xs) ∧ (SqL K H b zs ∨ SqT K H b zs) ∧ xs.length + zs.length ≤ sizeLine ∧ Q .non (upd H l (.lst (xs ++ zs)))
section
variable {U : Consts} {C : Calls} {cA : Nat → Addr} {X : Cx} {e : Expr} {xa : Ex} {i : Nat} {x : Str} {p1 p2 p3 : Pos}
theorem mt_extA : MtR X "list.extend" (rExtA X.K) := by
  intro pins s σ H y vs v us Q I rx rv h
  obtain ⟨l, b, xs, zs, rfl, rfl, hH, hB, hz, q⟩ := h
  cases rx
  obtain ⟨u, rfl, ru⟩ := rv.one
  cases ru
  obtain ⟨z, its, n, r, hl, e⟩ := I.lstM hH
  rcases hB with hB | hB
  · obtain ⟨i2, r2, ⟨o2, n2, q2, c2, d2, t2⟩, z2⟩ := I.list hB
    obtain ⟨oc, od, dt, sl⟩ := o2
    simp only at c2 d2 t2
    subst c2 d2 t2
    have m2 := r2.length
    have hsz : its.toArray.size + i2.toArray.size ≤ sizeLine := by simp only [List.size_toArray]; omega
    have hlong : ¬ (!its.toArray.isEmpty && Builtin.List.listTooLong (its.toArray.size + i2.toArray.size)) = true := by
      rw [notLongL hsz, Bool.and_false]; simp
    refine call_meets F.slot_list_extend ⟨_, e, rfl⟩ F.entry_list_extend (F.args_list_extend_2 _ _) (ext_lst hlong (by simp only [List.size_toArray] at hsz ⊢; omega) (by omega)) ⟨e, q2, ?_⟩
    exact ⟨.non, _, I.lset (its' := its ++ i2) hH e (by simp) (r.append r2) (by rw [List.length_append]; exact hz), rfl, q⟩
  · obtain ⟨i2, r2, ⟨o2, q2, c2, n2, t2⟩, z2⟩ := I.tuple hB
    obtain ⟨oc, od, dt, sl⟩ := o2
    simp only at c2 t2
    subst c2 t2
    have m2 := r2.length
    have hsz : its.toArray.size + i2.toArray.size ≤ sizeLine := by simp only [List.size_toArray]; omega
    have hlong : ¬ (!its.toArray.isEmpty && Builtin.List.listTooLong (its.toArray.size + i2.toArray.size)) = true := by
      rw [notLongL hsz, Bool.and_false]; simp
    refine call_meets F.slot_list_extend ⟨_, e, rfl⟩ F.entry_list_extend (F.args_list_extend_2 _ _) (ext_tup hlong (by simp only [List.size_toArray] at hsz ⊢; omega) (by omega)) ⟨e, q2, ?_⟩
    exact ⟨.non, _, I.lset (its' := its ++ i2) hH e (by simp) (r.append r2) (by rw [List.length_append]; exact hz), rfl, q⟩

theorem last_get {α : Type} {xs : List α} : xs[xs.length - 1]? = xs.getLast? := by
  rw [List.getLast?_eq_getElem?]
theorem se_pop (h1 : X.N[i]? = some x) (h2 : Vis X.env.scope x) (h3 : (x == ("__debug__" : Str)) = false) (h4 : (x == ("__classdict__" : Str)) = false) (hline : (p2.endLine == p3.line) = true) :
    SE U C cA X (.Call (.Attribute (.Name x p1) "pop" p2) [] [] p3) (.pop i) := by
  intro W tk
  refine ⟨_, pe_bm0 PySem.F.plainAttrs_list PySem.F.slot_list_pop PySem.F.type_list_pop mt_pop (pe_var h1 h2 h3 h4) rfl hline, fun B A G H σ ρ Q F g => ?_⟩
  simp only [evE] at g
  split at g
  · rename_i p xs q
    obtain ⟨a, k1, k2, k3, vs, k4, k5⟩ := F.own i p _ q
    split at g
    · rename_i y hy
      have hv : ∃ v, vs.getLast? = some v ∧ Dp X.K G v y := by
        rw [← last_get] at hy
        obtain ⟨v, e1, e2⟩ := dps_get k5 hy
        refine ⟨v, ?_, e2⟩
        rw [← last_get, dps_len k5]; exact e1
      obtain ⟨v, e1, e2⟩ := hv
      refine ⟨_, k1, .inl ⟨rfl, vs, .inl (.inl k4)⟩, a, vs, v, rfl, rfl, k4, by rw [last_get]; exact e1, ?_⟩
      exact g v G _ Sub.rfl (F.grow q k1 (dps_dropLast k5)) e2
    · exact g.elim
  · exact g.elim
theorem own_now {K : Frg} {B G H G' H' : Hp} {A : Fix} {σ : L2.St} {ρ ρ' : Rho} (F' : FR K B A G' H' σ ρ') {p : Bool} {xs : List PyData} (e : get ρ' i = .o p false (.lst xs)) {v : V} (hv : σ[i]? = some (some v)) : ∃ a vs, v = .ref a ∧ H' a = some (.lst vs) ∧ DpAll K G' vs xs := by
  obtain ⟨a, k1, k2, k3, vs, k4, k5⟩ := F'.own i p _ e
  rw [hv] at k1; cases k1
  exact ⟨a, vs, rfl, k4, k5⟩
theorem slot_at {K : Frg} {B G H : Hp} {A : Fix} {σ : L2.St} {ρ : Rho} (F : FR K B A G H σ ρ) {p l : Bool} {c : Con} (e : get ρ i = .o p l c) : ∃ a, σ[i]? = some (some (.ref a)) := by
  cases l with
  | false => obtain ⟨a, k1, _⟩ := F.own i p _ e; exact ⟨a, k1⟩
  | true => obtain ⟨a, _, _, k1, _⟩ := F.lck i p c e; exact ⟨a, k1⟩
theorem slot_list {K : Frg} {B G H : Hp} {A : Fix} {σ : L2.St} {ρ : Rho} (F : FR K B A G H σ ρ) {p l : Bool} {ys : List PyData} (e : get ρ i = .o p l (.lst ys)) : ∃ a vs, σ[i]? = some (some (.ref a)) ∧ H a = some (.lst vs) := by
  cases l with
  | false =>
    obtain ⟨a, k1, k2, k3, k4⟩ := F.own i p _ e
    obtain ⟨vs, k5, _⟩ := k4; exact ⟨a, vs, k1, k5⟩
  | true =>
    obtain ⟨a, xs, vs, k1, k2, k3, k4⟩ := F.lck i p _ e
    exact ⟨a, vs, k1, F.bh _ _ k3⟩
theorem se_app (h1 : X.N[i]? = some x) (h2 : Vis X.env.scope x) (h3 : (x == ("__debug__" : Str)) = false) (h4 : (x == ("__classdict__" : Str)) = false) (hline : (p2.endLine == p3.line) = true)
    (hs : starEach [e] X.env = (false, eval e X.env) :: starEach [] X.env) (hfew : ((backTo p3 (starEach [e] X.env)).all (fun x => !x.1) && (backToKw p3 (keywordEach [] X.env)).all (fun x => x.1.isSome)
      && decide ([e].length + ([] : List Keyword).length + (if ([] : List Keyword).isEmpty then 0 else 1) < 30)) = true) (ih : SE U C cA X e xa) :
    SE U C cA X (.Call (.Attribute (.Name x p1) "append" p2) [e] [] p3) (.app i xa) := by
  intro W tk
  obtain ⟨t, pa, h⟩ := ih W tk
  refine ⟨_, pe_bm PySem.F.plainAttrs_list PySem.F.slot_list_append PySem.F.type_list_append mt_append (pe_var h1 h2 h3 h4) (pa_cons pa pa_nil hs) rfl hfew hline hs rfl, fun B A G H σ ρ Q F g => ?_⟩
  simp only [evE] at g
  split at g
  · rename_i p l c q
    obtain ⟨a, vs, k1, k4⟩ := slot_list F q
    refine ⟨_, k1, .inl ⟨rfl, vs, .inl (.inl k4)⟩, h B A G H σ ρ _ F (g.then fun u ρ1 g1 v G1 H1 s1 F1 r1 => ?_)⟩
    obtain ⟨y, ρ2, G2, s2, F2, d, g2⟩ := Fin.frozen g1 F1 r1
    split at g2
    · rename_i p' xs q'
      split at g2
      · rename_i hlen
        obtain ⟨a', vs', e1, e2, e3⟩ := own_now (G := G) (H := H) (ρ := ρ) F2 q' k1
        cases e1
        refine ⟨a, vs', v, rfl, rfl, e2, by rw [dps_len e3]; exact hlen, ?_⟩
        exact g2 _ G2 _ (s1.tr s2) (F2.grow q' k1 (dps_app e3 (dps_one d))) .non
      · exact g2.elim
    · exact g2.elim
  · exact g.elim
theorem se_ext (h1 : X.N[i]? = some x) (h2 : Vis X.env.scope x) (h3 : (x == ("__debug__" : Str)) = false) (h4 : (x == ("__classdict__" : Str)) = false) (hline : (p2.endLine == p3.line) = true)
    (hs : starEach [e] X.env = (false, eval e X.env) :: starEach [] X.env) (hfew : ((backTo p3 (starEach [e] X.env)).all (fun x => !x.1) && (backToKw p3 (keywordEach [] X.env)).all (fun x => x.1.isSome)
      && decide ([e].length + ([] : List Keyword).length + (if ([] : List Keyword).isEmpty then 0 else 1) < 30)) = true) (ih : SE U C cA X e xa) :
    SE U C cA X (.Call (.Attribute (.Name x p1) "extend" p2) [e] [] p3) (.ext i xa) := by
  intro W tk
  obtain ⟨t, pa, h⟩ := ih W tk
  refine ⟨_, pe_bm PySem.F.plainAttrs_list PySem.F.slot_list_extend PySem.F.type_list_extend mt_extA (pe_var h1 h2 h3 h4) (pa_cons pa pa_nil hs) rfl hfew hline hs rfl, fun B A G H σ ρ Q F g => ?_⟩
  simp only [evE] at g
  split at g
  · rename_i p l c q
    obtain ⟨a, vs, k1, k4⟩ := slot_list F q
    refine ⟨_, k1, .inl ⟨rfl, vs, .inl (.inl k4)⟩, h B A G H σ ρ _ F (g.then fun u ρ1 g1 v G1 H1 s1 F1 r1 => ?_)⟩
    have main : ∀ (ys xs : List PyData) (p' : Bool), RdV X.K G1 H1 v (.list ys) ∨ RdV X.K G1 H1 v (.tuple ys) → get ρ1 i = .o p' false (.lst xs) → xs.length + ys.length ≤ sizeLine →
        PV ⟨X.K, B, A, σ, W, cA⟩ G Q (.d .none) (ρ1.set i (.o p' false (.lst (xs ++ ys)))) → rExtA X.K (.ref a) [v] H1 Q := fun ys xs p' hr q' hlen g2 => by
      obtain ⟨a', vs', e1, e2, e3⟩ := own_now (G := G) (H := H) (ρ := ρ) F1 q' k1
      cases e1
      rcases hr with hr | hr
      · obtain ⟨b, ws, rfl, m1, m2⟩ := hr.lst F1.gh
        refine ⟨a, b, vs', ws, rfl, rfl, e2, .inl m1, by rw [dps_len e3, dps_len m2]; exact hlen, ?_⟩
        exact g2 _ G1 _ s1 (F1.grow q' k1 (dps_app e3 m2)) .non
      · obtain ⟨b, ws, rfl, m1, m2, _⟩ := hr.tup F1.gh
        refine ⟨a, b, vs', ws, rfl, rfl, e2, .inr m1, by rw [dps_len e3, dps_len m2]; exact hlen, ?_⟩
        exact g2 _ G1 _ s1 (F1.grow q' k1 (dps_app e3 m2)) .non
    split at g1
    · rename_i j ys p' xs q' er
      split at g1
      · rename_i hc; exact main ys xs p' (.inl (F1.rde r1 er)) q' hc.2 g1
      · exact g1.elim
    · rename_i c' ys p' xs q' er
      split at g1
      · rename_i hc; exact main ys xs p' (.inl (F1.rde r1 er)) q' hc g1
      · exact g1.elim
    · rename_i c' ys p' xs q' er
      split at g1
      · rename_i hc; exact main ys xs p' (.inl (F1.rde r1 er)) q' hc g1
      · exact g1.elim
    · rename_i c' ys p' xs q' er
      split at g1
      · rename_i hc; exact main ys xs p' (.inr (F1.rde r1 er)) q' hc g1
      · exact g1.elim
    · exact g1.elim
  · exact g.elim
end
end Ev

set_option Elab.async false
set_option linter.all false
set_option maxRecDepth 100000
/-! Module constants; targets; what is walked; comprehensions. -/
namespace Ev
open PySem PySem.Spec PyProof.Rows L2

def Hp0 : Hp := fun _ => none
theorem sub0 {G : Hp} : Sub Hp0 G := fun _ _ z => by unfold Hp0 at z; cases z
/-- a dict of the module, told -/
def DicAt (K : Frg) (w : World) (a : Addr) (kvs : List (Str × PyData)) : Prop :=
  (∃ es n, KDict K w a es n) ∧ ∀ z : Str, match kvs.lookup z with
    | some d => ∃ u v, PySem.W.nsIn K a z = some (some u) ∧ RelV v u ∧ Dp K Hp0 v d
    | none => PySem.W.nsIn K a z = some none
section
variable {U : Consts} {C : Calls} {cA : Nat → Addr} {X : Cx} {e : Expr} {xa : Ex} {i j : Nat} {x : Str} {p1 p2 p3 : Pos}
theorem se_glob {d : PyData} {u : Value} {v : V} (hg : Gl X x) (hm : X.mg x = some u) (r : RelV v u) (hd : Dp X.K Hp0 v d) (hU : U.dat[j]? = some d) (hdb : (x == ("__debug__" : Str)) = false) : SE U C cA X (.Name x p1) (.glob j) := by
  intro W tk
  refine ⟨_, pe_glob hg hm r hdb, fun B A G H σ ρ Q F g => ?_⟩
  simp only [evE, hU] at g
  exact g v G H Sub.rfl F (dp_up sub0 hd)
theorem se_gidx {a : Addr} {kvs : List (Str × PyData)} (hg : Gl X x) (hm : X.mg x = some (.ref a)) (hd : DicAt X.K X.w a kvs) (hU : U.dic[j]? = some kvs) (hdb : (x == ("__debug__" : Str)) = false) (hs : PlainIx e) (ih : SE U C cA X e xa) :
    SE U C cA X (.Subscript (.Name x p1) e p2) (.gidx j xa) := by
  intro W tk
  obtain ⟨t, p, h⟩ := ih W tk
  refine ⟨_, pe_ix ix_kdict (pe_glob (v := .ref a) hg hm rfl hdb) p hs, fun B A G H σ ρ Q F g => h B A G H σ ρ _ F (g.then fun u ρ1 g1 v G1 H1 s1 F1 r1 => ?_)⟩
  split at g1
  · rename_i z kvs' e1 e2
    rw [hU] at e2; cases e2
    obtain ⟨y, e3, g2⟩ := g1.of
    obtain ⟨d, e4, rfl⟩ := map_some e3
    have q := hd.2 z
    rw [e4] at q
    obtain ⟨u0, v0, m1, m2, m3⟩ := q
    obtain ⟨⟨es, n, D⟩, _⟩ := hd
    have hv := (F1.rde r1 e1).str
    subst hv
    exact ⟨a, z, v0, rfl, rfl, ⟨es, n, u0, D.at_, D.lit, m1, m2⟩, g2 v0 G1 H1 s1 F1 (dp_up sub0 m3)⟩
  · exact g1.elim
theorem se_gin {neg : Bool} {a : Addr} {kvs : List (Str × PyData)} (hg : Gl X x) (hm : X.mg x = some (.ref a)) (hd : DicAt X.K X.w a kvs) (hU : U.dic[j]? = some kvs) (hdb : (x == ("__debug__" : Str)) = false) (ih : SE U C cA X e xa) :
    SE U C cA X (.Compare e [if neg then .NotIn else .In] [.Name x p1] p2) (.gin neg j xa) ∧ ST U C cA X (.Compare e [if neg then .NotIn else .In] [.Name x p1] p2) (.gin neg j xa) := by
  obtain ⟨es, n, D⟩ := hd.1
  have pn : PE X (.Name x p1) (tC (.ref a)) := pe_glob (v := .ref a) hg hm rfl hdb
  have go : ∀ W, Takes X W → ∃ t, PE X e t ∧ ∀ B A G H σ ρ Q (R : V → Hp → Prop), FR X.K B A G H σ ρ → (∀ v (z : Str) (r : Option Value) H1, v = .str z → PySem.W.nsIn X.K a z = some r → Q (.bl (xor neg r.isSome)) H1 → R v H1) →
      FinV ⟨X.K, B, A, σ, W, cA⟩ G Q (evE U C (.gin neg j xa) ρ) → t σ H R := by
    intro W tk
    obtain ⟨t, p, h⟩ := ih W tk
    refine ⟨t, p, fun B A G H σ ρ Q R F hR g => h B A G H σ ρ _ F (g.then fun u ρ1 g1 v G1 H1 s1 F1 r1 => ?_)⟩
    split at g1
    · rename_i z kvs' e1 e2
      rw [hU] at e2; cases e2
      have hq := g1 _ G1 H1 s1 F1 (.bl _)
      have q := hd.2 z
      cases h : kvs.lookup z with
      | none => rw [h] at q hq; exact hR v z none H1 (F1.rde r1 e1).str q hq
      | some d =>
        rw [h] at q hq
        obtain ⟨u0, v0, m1, _, _⟩ := q
        exact hR v z (some u0) H1 (F1.rde r1 e1).str m1 hq
    · exact g1.elim
  cases neg with
  | false =>
    constructor
    · intro W tk
      obtain ⟨t, p, h⟩ := go W tk
      exact ⟨_, pe_cmpR (op_in_kd D) p pn rfl, fun B A G H σ ρ Q F g => h B A G H σ ρ Q _ F (fun v z r H1 q1 q2 q3 => ⟨z, r, q1, rfl, q2, by simpa using q3⟩) g⟩
    · intro W tk
      obtain ⟨t, p, h⟩ := go W tk
      exact ⟨_, pt_cmpR (op_in_kd D) p pn rfl, fun B A G H σ ρ Q F g => h B A G H σ ρ _ _ F (fun v z r H1 q1 q2 q3 => ⟨z, r, q1, rfl, q2, by simpa using q3⟩) (asB_v g)⟩
  | true =>
    constructor
    · intro W tk
      obtain ⟨t, p, h⟩ := go W tk
      exact ⟨_, pe_cmpR (op_notIn_kd D) p pn rfl, fun B A G H σ ρ Q F g => h B A G H σ ρ Q _ F (fun v z r H1 q1 q2 q3 => ⟨z, r, q1, rfl, q2, by simpa using q3⟩) g⟩
    · intro W tk
      obtain ⟨t, p, h⟩ := go W tk
      exact ⟨_, pt_cmpR (op_notIn_kd D) p pn rfl, fun B A G H σ ρ Q F g => h B A G H σ ρ _ _ F (fun v z r H1 q1 q2 q3 => ⟨z, r, q1, rfl, q2, by simpa using q3⟩) (asB_v g)⟩
end

/-! ### targets -/
def Tg.slots : Tg → List Nat
  | .nm i => [i]
  | .tp is => is
/-- σ' is σ but for some slots -/
def But (is : List Nat) (σ σ' : L2.St) : Prop := σ'.length = σ.length ∧ ∀ j, j ∉ is → σ'[j]? = σ[j]?
theorem But.rfl {is : List Nat} {σ : L2.St} : But is σ σ := ⟨Eq.refl _, fun _ _ => Eq.refl _⟩
theorem But.set {is : List Nat} {σ σ' : L2.St} {i : Nat} {v : Option V} (h : But is (σ.set i v) σ') (hi : i ∈ is) : But is σ σ' :=
  ⟨h.1.trans (by simp), fun j hj => by
    rw [h.2 j hj]
    have ne : i ≠ j := fun z => hj (z ▸ hi)
    exact st_ne ne⟩
def STg (X : Cx) (tg : Expr) (T : Tg) : Prop := ∃ g, PG X tg g ∧ ∀ B A G H σ ρ v x ρ' Q, FR X.K B A G H σ ρ → Dp X.K G v x → T.to x ρ = some ρ' → (∀ σ', FR X.K B A G H σ' ρ' → But T.slots σ σ' → Q σ' H) → g v σ H Q
theorem put_some {ρ ρ' : Rho} {i : Nat} {x : Vr} (h : put ρ i x = some ρ') : open' ρ i = true ∧ ρ' = ρ.set i x := by
  unfold put at h
  split at h
  · rename_i q; cases h; exact ⟨q, rfl⟩
  · cases h
section
variable {X : Cx}
theorem stg_name {i : Nat} {x : Str} {p : Pos} (hN : X.N.Nodup) (hi : X.N[i]? = some x) (hx : Loc X.env.scope x) (hf : X.fn x = true ∨ X.env.scope.names.lookup x = some .local) : STg X (.Name x p) (.nm i) := by
  refine ⟨_, pg_name hN hi hx hf, fun B A G H σ ρ v y ρ' Q F d e k => ?_⟩
  obtain ⟨h1, rfl⟩ := put_some e
  exact k _ (F.store h1 d) (But.set .rfl (by simp [Tg.slots]))
/-- targets of a tuple's items -/
def STgs (X : Cx) (ts : List Expr) (is : List Nat) : Prop := ∃ g, PGs X ts g ∧ ∀ (js : List Nat) B A G H σ ρ vs xs ρ' Q, FR X.K B A G H σ ρ → DpAll X.K G vs xs → puts is xs ρ = some ρ' → (∀ i ∈ is, i ∈ js) → (∀ σ', FR X.K B A G H σ' ρ' → But js σ σ' → Q σ' H) → g vs σ H Q
theorem stgs_nil : STgs X [] [] := ⟨_, pgs_nil, fun js B A G H σ ρ vs xs ρ' Q F d e _ k => by
  cases xs with
  | nil => cases d; cases e; exact ⟨rfl, k σ F .rfl⟩
  | cons x xs => cases e⟩
theorem stgs_cons {e : Expr} {es : List Expr} {i : Nat} {x : Str} {p : Pos} {is : List Nat} (hN : X.N.Nodup) (hi : X.N[i]? = some x) (hx : Loc X.env.scope x) (hf : X.fn x = true ∨ X.env.scope.names.lookup x = some .local)
    (hs : (assignEach (.Name x p :: es) X.env).map (·.2) = assign (.Name x p) X.env :: (assignEach es X.env).map (·.2)) (ih : STgs X es is) : STgs X (.Name x p :: es) (i :: is) := by
  obtain ⟨g, pg, h⟩ := ih
  refine ⟨_, pgs_cons (pg_name hN hi hx hf) pg hs, fun js B A G H σ ρ vs xs ρ' Q F d e hj k => ?_⟩
  cases xs with
  | nil => cases e
  | cons y ys =>
    cases d with
    | cons d1 d2 =>
      simp only [puts] at e
      cases q : put ρ i (.d y) with
      | none => rw [q] at e; cases e
      | some ρ1 =>
        rw [q] at e
        obtain ⟨h1, rfl⟩ := put_some q
        refine ⟨_, _, rfl, h js B A G H _ _ _ _ _ _ (F.store (x := .d y) h1 d1) d2 e (fun j hm => hj j (List.mem_cons_of_mem _ hm)) fun σ' F' b => k σ' F' (b.set (hj i (List.mem_cons_self ..)))⟩
theorem stg_tup {ts : List Expr} {is : List Nat} {k : Nat} {p : Pos} {n : Nat} (hc : X.calm = true) (hn : (assignEach ts X.env).length = n) (hst : (assignEach ts X.env).findIdx? (·.1) = none) (hl : is.length = n) (ih : STgs X ts is) : STg X (.Tuple ts k p) (.tp is) := by
  obtain ⟨g, pg, h⟩ := ih
  have p1 := pg_tup (k := k) (pos := p) hc pg hn hst
  have p2 := pg_unl (k := k) (pos := p) hc pg hn hst
  refine ⟨fun v σ H Q => gTup X.K n g v σ H Q ∨ gUnl X.K n g v σ H Q, ⟨fun pins s σ H v u Q I r hw => hw.elim (p1.run pins s σ H v u Q I r) (p2.run pins s σ H v u Q I r)⟩, fun B A G H σ ρ v x ρ' Q F d e k => ?_⟩
  have plen : ∀ {is : List Nat} {xs : List PyData} {ρ ρ' : Rho}, puts is xs ρ = some ρ' → is.length = xs.length := by
    intro is
    induction is with
    | nil => intro xs ρ ρ' e; cases xs with
      | nil => rfl
      | cons _ _ => cases e
    | cons i is ih =>
      intro xs ρ ρ' e
      cases xs with
      | nil => cases e
      | cons y ys =>
        simp only [puts] at e
        cases q : put ρ i (.d y) with
        | none => rw [q] at e; cases e
        | some ρ1 => rw [q] at e; simp [ih e]
  cases x with
  | tuple xs =>
    cases d with
    | tup d1 d2 =>
      rename_i a vs
      have hlen : vs.length = n := by rw [dps_len d2, ← plen e, hl]
      exact .inl ⟨a, vs, rfl, sqt_up F.gh d1, hlen, h _ B A G H σ ρ vs xs ρ' Q F d2 e (fun _ z => z) k⟩
  | list xs =>
    cases d with
    | lst d1 d2 =>
      rename_i a vs
      have hlen : vs.length = n := by rw [dps_len d2, ← plen e, hl]
      exact .inr ⟨a, vs, rfl, sql_up F.gh d1, hlen, h _ B A G H σ ρ vs xs ρ' Q F d2 e (fun _ z => z) k⟩
  | _ => cases e
end

/-! ### what is walked -/
/-- back from a walk -/
def Bk (K : Frg) (B : Hp) (A : Fix) (B' : Hp) (A' : Fix) (l : Option Nat) : Prop := (∀ G' H' σ' ρ', FR K B' A' G' H' σ' ρ' → FR K B A G' H' σ' (unlock ρ' l)) ∧ (l = none → B' = B ∧ A' = A)
theorem Bk.none {K : Frg} {B : Hp} {A : Fix} : Bk K B A B A none := ⟨fun _ _ _ _ F => F, fun _ => ⟨rfl, rfl⟩⟩
structure Wk (K : Frg) (J : It) (G1 B' : Hp) (xs : List PyData) : Prop where
  go : ∀ i G' H', Sub G1 G' → Sub G' H' → Sub B' H' → i < xs.length → J.go i H'
  stop : ∀ G' H', Sub G1 G' → Sub G' H' → Sub B' H' → J.stop xs.length H'
  yld : ∀ i G' H' v H'' d, Sub G1 G' → Sub G' H' → Sub B' H' → xs[i]? = some d → J.yld i H' v H'' → ∃ G'', New G' H' G'' H'' ∧ Dp K G'' v d
section
variable {K : Frg} {B G H : Hp} {A : Fix} {σ : L2.St} {ρ : Rho}
theorem FR.lock (F : FR K B A G H σ ρ) {i : Nat} {p : Bool} {xs : List PyData} (e : get ρ i = .o p false (.lst xs)) : ∃ a vs B' A', σ[i]? = some (some (.ref a)) ∧ FR K B' A' G H σ (lock ρ (some i)) ∧ Bk K B A B' A' (some i) ∧ Sub B B' ∧ B' a = some (.lst vs) ∧ DpAll K G vs xs := by
  obtain ⟨a, k1, k2, k3, vs, k4, k5⟩ := F.own i p _ e
  have hl : i < ρ.length := get_lt (by rw [e]; simp)
  have oneA : ∀ j q, A j = some (a, q) → j = i := fun j q z => by
    obtain ⟨m1, l, c, m2, m3⟩ := F.fix j a q z
    cases l with
    | false => exact F.inj j i q c p _ _ m2 e m1 k1
    | true =>
      obtain ⟨b, _, _, n1, _, n2, _⟩ := F.lck j q c m2
      rw [m1] at n1; cases n1
      rw [k3] at n2; cases n2
  have el : Ev.lock ρ (some i) = ρ.set i (.o p true (.lst xs)) := by simp [Ev.lock, e, lockV]
  have pA : p = true → A i = some (a, true) := fun hp => by
    subst hp
    obtain ⟨b, hb⟩ := F.fixd i true false _ e rfl
    obtain ⟨m1, _⟩ := F.fix i b true hb
    rw [k1] at m1; cases m1; exact hb
  have pA' : p = false → A i = none := fun hp => by
    subst hp
    cases q : A i with
    | none => rfl
    | some z =>
      obtain ⟨b, r⟩ := z
      obtain ⟨_, l, c, m2, m3⟩ := F.fix i b r q
      rw [e] at m2; cases m2; cases m3
  have sB : Sub B (upd B a (.lst vs)) := Sub.add k3
  refine ⟨a, vs, upd B a (.lst vs), fun j => if j = i then some (a, p) else A j, k1, ?_, ?_, sB, upd_same, k5⟩
  · rw [el]
    refine ⟨by simp [F.len], F.gh, F.bh.at k4, fun b o q => ?_, fun j y z => ?_, fun j q c z => ?_, fun j q c z => ?_, fun j k q c q' c' w e1 e2 => ?_, fun j c y z => ?_, fun j b q z => ?_, fun j q l c z r => ?_⟩
    · have : b ≠ a := fun w => by subst w; rw [k2] at q; cases q
      rw [upd_ne this]; exact F.gb b o q
    · have h : j ≠ i := fun w => by subst w; rw [get_set_same hl] at z; cases z
      rw [get_set_ne (Ne.symm h)] at z
      exact F.dat j y z
    · have h : j ≠ i := fun w => by subst w; rw [get_set_same hl] at z; cases z
      rw [get_set_ne (Ne.symm h)] at z
      obtain ⟨b, n1, n2, n3, n4⟩ := F.own j q c z
      have hb : b ≠ a := fun w => h (F.inj j i q c p _ _ z e n1 (by rw [k1, w]))
      exact ⟨b, n1, n2, by rw [upd_ne hb]; exact n3, n4⟩
    · by_cases h : j = i
      · subst h; rw [get_set_same hl] at z; cases z
        exact ⟨a, xs, vs, k1, rfl, upd_same, k5⟩
      · rw [get_set_ne (Ne.symm h)] at z
        obtain ⟨b, ys, ws, n1, n2, n3, n4⟩ := F.lck j q c z
        exact ⟨b, ys, ws, n1, n2, sB _ _ n3, n4⟩
    · have h : j ≠ i := fun w => by subst w; rw [get_set_same hl] at e1; cases e1
      have h' : k ≠ i := fun w => by subst w; rw [get_set_same hl] at e2; cases e2
      rw [get_set_ne (Ne.symm h)] at e1
      rw [get_set_ne (Ne.symm h')] at e2
      exact F.inj j k q c q' c' w e1 e2
    · have h : j ≠ i := fun w => by subst w; rw [get_set_same hl] at z; cases z
      rw [get_set_ne (Ne.symm h)] at z
      exact F.exc j c y z
    · by_cases h : j = i
      · rw [if_pos h] at z; cases z
        subst h
        exact ⟨k1, true, _, get_set_same hl, by simp⟩
      · rw [if_neg h] at z
        obtain ⟨m1, l, c, m2, m3⟩ := F.fix j b q z
        exact ⟨m1, l, c, by rw [get_set_ne (Ne.symm h)]; exact m2, m3⟩
    · by_cases h : j = i
      · subst h; rw [get_set_same hl] at z; cases z
        exact ⟨a, by rw [if_pos rfl]⟩
      · rw [get_set_ne (Ne.symm h)] at z
        obtain ⟨b, hb⟩ := F.fixd j q l c z r
        exact ⟨b, by rw [if_neg h]; exact hb⟩
  · refine ⟨?_, fun h => nomatch h⟩
    intro G' H' σ' ρ' F'
    obtain ⟨m1, l, c, m2, m3⟩ := F'.fix i a p (by rw [if_pos rfl])
    have hl' : i < ρ'.length := get_lt (by rw [m2]; simp)
    have lt : l = true := by
      cases l with
      | true => rfl
      | false =>
        obtain ⟨b, n1, n2, n3, n4⟩ := F'.own i p c m2
        rw [m1] at n1; cases n1
        rw [upd_same] at n3; cases n3
    subst lt
    obtain ⟨b, ys, ws, n1, rfl, n3, n4⟩ := F'.lck i p c m2
    rw [m1] at n1; cases n1
    rw [upd_same] at n3; cases n3
    have hH : H' a = some (.lst vs) := F'.bh _ _ upd_same
    have hG : G' a = none := by
      cases q : G' a with
      | none => rfl
      | some o => have := F'.gb a o q; rw [upd_same] at this; cases this
    have eu : Ev.unlock ρ' (some i) = ρ'.set i (.o p false (.lst ys)) := by simp [unlock, m2, lockV]
    have nb : ∀ b, (upd B a (.lst vs)) b = none → B b = none := fun b q => none_of_sub sB q
    rw [eu]
    refine ⟨by simp [F'.len], F'.gh, sB.tr F'.bh, fun b o q => nb b (F'.gb b o q), fun j y z => ?_, fun j q c z => ?_, fun j q c z => ?_, fun j k q c q' c' w e1 e2 r1 r2 => ?_, fun j c y z => ?_, fun j b q z => ?_, fun j q l c z r => ?_⟩
    · have h : j ≠ i := fun w => by subst w; rw [get_set_same hl'] at z; cases z
      rw [get_set_ne (Ne.symm h)] at z
      exact F'.dat j y z
    · by_cases h : j = i
      · subst h; rw [get_set_same hl'] at z; cases z
        exact ⟨a, m1, hG, k3, vs, hH, n4⟩
      · rw [get_set_ne (Ne.symm h)] at z
        obtain ⟨b, t1, t2, t3, t4⟩ := F'.own j q c z
        exact ⟨b, t1, t2, nb b t3, t4⟩
    · have h : j ≠ i := fun w => by subst w; rw [get_set_same hl'] at z; cases z
      rw [get_set_ne (Ne.symm h)] at z
      obtain ⟨b, zs, us, t1, t2, t3, t4⟩ := F'.lck j q c z
      have hb : b ≠ a := fun w => by
        subst w
        obtain ⟨b', hb'⟩ := F'.fixd j q true c z (by simp)
        obtain ⟨w1, _⟩ := F'.fix j b' q hb'
        rw [if_neg h] at hb'
        rw [t1] at w1; cases w1
        exact h (oneA j q hb')
      exact ⟨b, zs, us, t1, t2, by rw [upd_ne hb] at t3; exact t3, t4⟩
    · have other : ∀ (k : Nat) (q : Bool) (c : Con), k ≠ i → get ρ' k = .o q false c → σ'[k]? ≠ some (some (.ref a)) := fun k q c hk z w => by
        obtain ⟨b, t1, t2, t3, t4⟩ := F'.own k q c z
        rw [w] at t1; cases t1
        rw [upd_same] at t3; cases t3
      by_cases h : j = i
      · by_cases h' : k = i
        · rw [h, h']
        · exfalso
          subst h
          rw [m1] at r1; cases r1
          rw [get_set_ne (Ne.symm h')] at e2
          exact other k q' c' h' e2 r2
      · by_cases h' : k = i
        · exfalso
          subst h'
          rw [m1] at r2; cases r2
          rw [get_set_ne (Ne.symm h)] at e1
          exact other j q c h e1 r1
        · rw [get_set_ne (Ne.symm h)] at e1
          rw [get_set_ne (Ne.symm h')] at e2
          exact F'.inj j k q c q' c' w e1 e2 r1 r2
    · have h : j ≠ i := fun w => by subst w; rw [get_set_same hl'] at z; cases z
      rw [get_set_ne (Ne.symm h)] at z
      exact F'.exc j c y z
    · by_cases h : j = i
      · subst h
        cases p with
        | false => rw [pA' rfl] at z; cases z
        | true =>
          rw [pA rfl] at z; cases z
          exact ⟨m1, false, _, get_set_same hl', rfl⟩
      · obtain ⟨w1, l, c, w2, w3⟩ := F'.fix j b q (by rw [if_neg h]; exact z)
        exact ⟨w1, l, c, by rw [get_set_ne (Ne.symm h)]; exact w2, w3⟩
    · by_cases h : j = i
      · subst h; rw [get_set_same hl'] at z; cases z
        have hp : p = true := by simpa using r
        subst hp
        exact ⟨a, pA rfl⟩
      · rw [get_set_ne (Ne.symm h)] at z
        obtain ⟨b, hb⟩ := F'.fixd j q l c z r
        exact ⟨b, by rw [if_neg h] at hb; exact hb⟩
end
end Ev

set_option Elab.async false
set_option linter.all false
set_option maxRecDepth 100000
/-! What is walked: sources of loops. -/
namespace Ev
open PySem PySem.Spec PyProof.Rows L2 RZ

def WkA (K : Frg) (J : It) (G1 B' : Hp) (A' : Fix) (xs : List PyData) : Prop := ∀ B0 : Hp, (∀ i a p, A' i = some (a, p) → B0 a = B' a) → Wk K J G1 B0 xs
def PS' (Γ : Cn) (G : Hp) (R : It → Hp → Prop) (il : List PyData × Option Nat) (ρ : Rho) : Prop := ∀ J G1 H1 B' A', Sub G G1 → FR Γ.K B' A' G1 H1 Γ.σ (lock ρ il.2) → Bk Γ.K Γ.B Γ.A B' A' il.2 → Sub Γ.B B' → WkA Γ.K J G1 B' A' il.1 → R J H1
def SSrc (cA : Nat → Addr) (X : Cx) (tg it : Expr) (o : Rho → Out (List PyData × Option Nat)) : Prop := ∀ W, Takes X W → ∃ wi, PI X tg it wi ∧ ∀ B A G H σ ρ R, FR X.K B A G H σ ρ →
  Fin (PS' ⟨X.K, B, A, σ, W, cA⟩ G R) (PX ⟨X.K, B, A, σ, W, cA⟩ G) (o ρ) → wi σ H R

/-- a list that stays readable -/
def Stay (K : Frg) (G B : Hp) (a : Addr) (vs : List V) : Prop := ∀ G' H', Sub G G' → Sub G' H' → Sub B H' → SqL K H' a vs
def StayT (K : Frg) (G B : Hp) (a : Addr) (vs : List V) : Prop := ∀ G' H', Sub G G' → Sub G' H' → Sub B H' → SqT K H' a vs
section
variable {K : Frg} {B G H : Hp} {A : Fix} {σ : L2.St} {ρ : Rho} {a : Addr} {vs : List V} {xs : List PyData}
theorem wk_list (s : Stay K G B a vs) (d : DpAll K G vs xs) : Wk K (Itl K a) G B xs := by
  have hl := dps_len d
  refine ⟨fun i G' H' h1 h2 h3 hi => ?_, fun G' H' h1 h2 h3 => ⟨vs, s G' H' h1 h2 h3, by omega⟩, fun i G' H' v H'' y h1 h2 h3 e h => ?_⟩
  · exact ⟨vs, vs[i]'(by omega), s G' H' h1 h2 h3, List.getElem?_eq_getElem _⟩
  · obtain ⟨rfl, q⟩ := h
    obtain ⟨w, e1, e2⟩ := dps_get d e
    rw [q vs (s G' _ h1 h2 h3)] at e1; cases e1
    exact ⟨G', New.same h2, dp_up h1 e2⟩
theorem wk_tup (s : StayT K G B a vs) (d : DpAll K G vs xs) : Wk K (Itt K a) G B xs := by
  have hl := dps_len d
  refine ⟨fun i G' H' h1 h2 h3 hi => ?_, fun G' H' h1 h2 h3 => ⟨vs, s G' H' h1 h2 h3, by omega⟩, fun i G' H' v H'' y h1 h2 h3 e h => ?_⟩
  · exact ⟨vs, vs[i]'(by omega), s G' H' h1 h2 h3, List.getElem?_eq_getElem _⟩
  · obtain ⟨rfl, q⟩ := h
    obtain ⟨w, e1, e2⟩ := dps_get d e
    rw [q vs (s G' _ h1 h2 h3)] at e1; cases e1
    exact ⟨G', New.same h2, dp_up h1 e2⟩
theorem wk_range {lo : Int} {n : Nat} : Wk K (Itr lo n) G B (up lo n) := by
  have hl : (up lo n).length = n := by simp [up]
  refine ⟨fun i G' H' h1 h2 h3 hi => by rw [hl] at hi; exact hi, fun G' H' h1 h2 h3 => Nat.le_of_eq hl.symm, fun i G' H' v H'' y h1 h2 h3 e h => ?_⟩
  obtain ⟨rfl, rfl⟩ := h
  refine ⟨G', New.same h2, ?_⟩
  have hi : i < n := by
    rcases Nat.lt_or_ge i n with z | z
    · exact z
    · rw [List.getElem?_eq_none (by omega)] at e; cases e
  simp only [up, List.getElem?_map, List.getElem?_range hi, Option.map_some, Option.some.injEq] at e
  subst e
  exact .int _
theorem numbered_get {i : Nat} {y : PyData} (e : (numbered xs)[i]? = some y) : ∃ x, xs[i]? = some x ∧ y = .tuple [.int i, x] := by
  simp only [numbered, List.getElem?_map] at e
  obtain ⟨p, e1, rfl⟩ := map_some e
  rw [List.getElem?_zip_eq_some] at e1
  obtain ⟨h1, h2⟩ := e1
  have hi : i < xs.length := by
    rcases Nat.lt_or_ge i xs.length with z | z
    · exact z
    · rw [List.getElem?_eq_none z] at h2; cases h2
  rw [List.getElem?_range hi] at h1
  cases h1
  exact ⟨_, h2, rfl⟩
theorem wk_enum (s : Stay K G B a vs) (d : DpAll K G vs xs) : Wk K (Ite K a) G B (numbered xs) := by
  have hl := dps_len d
  have hn : (numbered xs).length = xs.length := by simp [numbered]
  refine ⟨fun i G' H' h1 h2 h3 hi => ?_, fun G' H' h1 h2 h3 => ⟨vs, s G' H' h1 h2 h3, by omega⟩, fun i G' H' v H'' y h1 h2 h3 e h => ?_⟩
  · exact ⟨vs, vs[i]'(by omega), s G' H' h1 h2 h3, List.getElem?_eq_getElem _⟩
  · obtain ⟨T, x, rfl, hT, rfl, q⟩ := h
    obtain ⟨z, e0, rfl⟩ := numbered_get e
    obtain ⟨w, e1, e2⟩ := dps_get d e0
    rw [q vs (s G' _ h1 h2 h3)] at e1; cases e1
    have n := New.both (o := .tup [.int i, x]) h2 hT
    exact ⟨_, n, .tup (.inl (.inl upd_same)) (.cons (.int _) (.cons (dp_up (h1.tr n.gg) e2) .nil))⟩
theorem paired_get2 {ys : List PyData} {i : Nat} {y : PyData} (e : (paired xs ys)[i]? = some y) : ∃ x x', xs[i]? = some x ∧ ys[i]? = some x' ∧ y = .tuple [x, x'] := by
  simp only [paired, List.getElem?_map] at e
  obtain ⟨p, e1, rfl⟩ := map_some e
  rw [List.getElem?_zip_eq_some] at e1
  exact ⟨_, _, e1.1, e1.2, rfl⟩
theorem wk_zip {b : Addr} {ws : List V} {ys : List PyData} (s : Stay K G B a vs) (d : DpAll K G vs xs) (s' : Stay K G B b ws) (d' : DpAll K G ws ys) : Wk K (Itz K a b) G B (paired xs ys) := by
  have hl := dps_len d
  have hl' := dps_len d'
  have hn : (paired xs ys).length = min xs.length ys.length := by simp [paired]
  refine ⟨fun i G' H' h1 h2 h3 hi => ?_, fun G' H' h1 h2 h3 => ⟨vs, ws, s G' H' h1 h2 h3, s' G' H' h1 h2 h3, by omega⟩, fun i G' H' v H'' y h1 h2 h3 e h => ?_⟩
  · exact ⟨vs, ws, vs[i]'(by omega), ws[i]'(by omega), s G' H' h1 h2 h3, s' G' H' h1 h2 h3, List.getElem?_eq_getElem _, List.getElem?_eq_getElem _⟩
  · obtain ⟨T, x, x', rfl, hT, rfl, q, q'⟩ := h
    obtain ⟨z, z', e0, e0', rfl⟩ := paired_get2 e
    obtain ⟨w, e1, e2⟩ := dps_get d e0
    obtain ⟨w', f1, f2⟩ := dps_get d' e0'
    rw [q vs (s G' _ h1 h2 h3)] at e1; cases e1
    rw [q' ws (s' G' _ h1 h2 h3)] at f1; cases f1
    have n := New.both (o := .tup [x, x']) h2 hT
    exact ⟨_, n, .tup (.inl (.inl upd_same)) (.cons (dp_up (h1.tr n.gg) e2) (.cons (dp_up (h1.tr n.gg) f2) .nil))⟩
theorem wk_zipT {b : Addr} {ws : List V} {ys : List PyData} (s : StayT K G B a vs) (d : DpAll K G vs xs) (s' : StayT K G B b ws) (d' : DpAll K G ws ys) : Wk K (ItzT K a b) G B (paired xs ys) := by
  have hl := dps_len d
  have hl' := dps_len d'
  have hn : (paired xs ys).length = min xs.length ys.length := by simp [paired]
  refine ⟨fun i G' H' h1 h2 h3 hi => ?_, fun G' H' h1 h2 h3 => ⟨vs, ws, s G' H' h1 h2 h3, s' G' H' h1 h2 h3, by omega⟩, fun i G' H' v H'' y h1 h2 h3 e h => ?_⟩
  · exact ⟨vs, ws, vs[i]'(by omega), ws[i]'(by omega), s G' H' h1 h2 h3, s' G' H' h1 h2 h3, List.getElem?_eq_getElem _, List.getElem?_eq_getElem _⟩
  · obtain ⟨T, x, x', rfl, hT, rfl, q, q'⟩ := h
    obtain ⟨z, z', e0, e0', rfl⟩ := paired_get2 e
    obtain ⟨w, e1, e2⟩ := dps_get d e0
    obtain ⟨w', f1, f2⟩ := dps_get d' e0'
    rw [q vs (s G' _ h1 h2 h3)] at e1; cases e1
    rw [q' ws (s' G' _ h1 h2 h3)] at f1; cases f1
    have n := New.both (o := .tup [x, x']) h2 hT
    exact ⟨_, n, .tup (.inl (.inl upd_same)) (.cons (dp_up (h1.tr n.gg) e2) (.cons (dp_up (h1.tr n.gg) f2) .nil))⟩

/-- the row of a value that is walked: a list -/
theorem walk_list {u : EV} {v : V} {l : Option Nat} (F : FR K B A G H σ ρ) (r : RelEV K B G H σ ρ v u) (e : items ρ u = some (xs, l)) (nt : ∀ ys, u ≠ .d (.tuple ys)) :
    ∃ a vs G' B' A', v = .ref a ∧ Sub G G' ∧ FR K B' A' G' H σ (lock ρ l) ∧ Bk K B A B' A' l ∧ Sub B B' ∧ (∀ B0 : Hp, (∀ i a p, A' i = some (a, p) → B0 a = B' a) → Stay K G' B0 a vs) ∧ DpAll K G' vs xs := by
  cases u with
  | d x =>
    cases x with
    | list ys =>
      cases e
      have r' : Dp K G v (.list xs) := r
      cases r' with
      | lst h1 h2 => exact ⟨_, _, G, B, A, rfl, Sub.rfl, F, Bk.none, Sub.rfl, fun B0 _ G' H' k1 k2 k3 => sql_up (k1.tr k2) h1, h2⟩
    | tuple ys => exact absurd rfl (nt ys)
    | _ => cases e
  | x c y => cases e
  | o c =>
    cases c with
    | dct k => cases e
    | lst ys =>
      cases e
      obtain ⟨a, rfl, h2, h3, ⟨vs, h4, h5⟩, h6⟩ := r
      have s := Sub.add (o := HO.lst vs) h2
      exact ⟨a, vs, _, B, A, rfl, s, F.frz h3 h4 h6, Bk.none, Sub.rfl, fun B0 _ G' H' k1 k2 k3 => .inl (.inl (k2 _ _ (k1 _ _ upd_same))), dps_up s h5⟩
  | b i =>
    obtain ⟨r1, _⟩ := r
    simp only [items] at e
    split at e
    · rename_i p l0 ys q
      cases e
      cases l0 with
      | false =>
        obtain ⟨a, vs, B', A', k1, k2, k3, k4, k5, k6⟩ := F.lock q
        rw [r1] at k1; cases k1
        have hi : i < ρ.length := get_lt (by rw [q]; simp)
        obtain ⟨b, hb⟩ := k2.fixd i p true (.lst xs) (by simp only [Ev.lock, q]; exact get_set_same hi) (by simp)
        obtain ⟨m1, _⟩ := k2.fix i b p hb
        rw [r1] at m1; cases m1
        exact ⟨a, vs, G, B', A', rfl, Sub.rfl, k2, k3, k4, fun B0 hB G' H' _ _ m3 => .inl (.inl (m3 _ _ ((hB i a p hb).trans k5))), k6⟩
      | true =>
        obtain ⟨a, zs, vs, k1, k2, k3, k4⟩ := F.lck i p _ q
        cases k2
        rw [r1] at k1; cases k1
        obtain ⟨b, hb⟩ := F.fixd i p true _ q (by simp)
        obtain ⟨m1, _⟩ := F.fix i b p hb
        rw [r1] at m1; cases m1
        exact ⟨a, vs, G, B, A, rfl, Sub.rfl, F, Bk.none, Sub.rfl, fun B0 hB G' H' _ _ m3 => .inl (.inl (m3 _ _ ((hB i a p hb).trans k3))), k4⟩
    · cases e
end

section
variable {U : Consts} {C : Calls} {cA : Nat → Addr} {X : Cx} {tg a b e : Expr} {xa xb : Ex} {p pos : Pos}
theorem pi_either {te : TE} (h : PE X e te) : PI X tg e (fun σ H R => iList X.K te σ H R ∨ iTup X.K te σ H R) := ⟨fun pins s σ H R I w => by
  rcases w with w | w
  · exact (pi_list h).run pins s σ H R I w
  · exact (pi_tup h).run pins s σ H R I w⟩
theorem ss_ev (ih : SE U C cA X e xa) : SSrc cA X tg e (evSrc U C (.ev xa)) := by
  intro W tk
  obtain ⟨t, p, h⟩ := ih W tk
  refine ⟨_, pi_either p, fun B A G H σ ρ R F g => ?_⟩
  simp only [evSrc] at g
  by_cases ht : ∃ ys ρ1, evE U C xa ρ = .ok (.d (.tuple ys)) ρ1
  · obtain ⟨ys, ρ1, ht⟩ := ht
    right
    refine h B A G H σ ρ _ F ?_
    rw [ht] at g ⊢
    intro v G1 H1 s1 F1 r1
    have g' : PS' ⟨X.K, B, A, σ, W, cA⟩ G R (ys, none) ρ1 := g
    have r' : Dp X.K G1 v (.tuple ys) := r1
    cases r' with
    | tup d1 d2 =>
      exact ⟨_, rfl, ⟨_, sqt_up F1.gh d1⟩, g' _ G1 H1 B A s1 F1 Bk.none Sub.rfl (fun B0 _ => wk_tup (fun G' H' k1 k2 k3 => sqt_up (k1.tr k2) d1) d2)⟩
  · left
    refine h B A G H σ ρ _ F ?_
    cases q : evE U C xa ρ with
    | stuck => rw [q] at g; exact g
    | exc c x ρ1 => rw [q] at g; exact g
    | ok u ρ1 =>
      rw [q] at g
      intro v G1 H1 s1 F1 r1
      obtain ⟨⟨xs, l⟩, e1, g1⟩ := Fin.of (show Fin _ _ (Out.of ρ1 (items ρ1 u)) from g)
      obtain ⟨a, vs, G2, B', A', rfl, s2, F2, bk, sB, st, d⟩ := walk_list F1 r1 e1 (fun ys z => ht ⟨ys, ρ1, by rw [q, z]⟩)
      exact ⟨a, rfl, ⟨vs, st B' (fun _ _ _ _ => rfl) G2 H1 Sub.rfl F2.gh F2.bh⟩, g1 _ G2 H1 B' A' (s1.tr s2) F2 bk sB (fun B0 hB => wk_list (st B0 hB) d)⟩
theorem small_iff {i : Int} : small i = true ↔ -(2 ^ 62) ≤ i ∧ i < 2 ^ 62 := by simp [small]
theorem ss_rng1 (hg : Gl X "range") (hm : X.mg "range" = none) (hs : starEach [a] X.env = [(false, eval a X.env)]) (ih : SE U C cA X a xa) : SSrc cA X tg (.Call (.Name "range" p) [a] [] pos) (evSrc U C (.rng1 xa)) := by
  intro W tk
  obtain ⟨t, pa, h⟩ := ih W tk
  refine ⟨_, pi_range1 hg hm (pa_cons pa pa_nil hs) hs, fun B A G H σ ρ R F g => h B A G H σ ρ _ F (g.then fun u ρ1 g1 v G1 H1 s1 F1 r1 => ?_)⟩
  split at g1
  · rename_i j
    cases r1
    split at g1
    · rename_i hj
      rw [small_iff] at hj
      exact ⟨j, rfl, hj.1, hj.2, g1 _ G1 H1 B A s1 F1 Bk.none Sub.rfl (fun B0 _ => wk_range)⟩
    · exact g1.elim
  · exact g1.elim
theorem ss_rng2 (hg : Gl X "range") (hm : X.mg "range" = none) (hs : starEach [a, b] X.env = [(false, eval a X.env), (false, eval b X.env)]) (hs2 : starEach [b] X.env = [(false, eval b X.env)]) (iha : SE U C cA X a xa) (ihb : SE U C cA X b xb) :
    SSrc cA X tg (.Call (.Name "range" p) [a, b] [] pos) (evSrc U C (.rng2 xa xb)) := by
  intro W tk
  obtain ⟨ta, pa, ha⟩ := iha W tk
  obtain ⟨tb, pb, hb⟩ := ihb W tk
  have hs' : starEach [a, b] X.env = (false, eval a X.env) :: starEach [b] X.env := by rw [hs, hs2]
  refine ⟨_, pi_range2 hg hm (pa_cons pa (pa_cons pb pa_nil hs2) hs') hs hs2, fun B A G H σ ρ R F g => ha B A G H σ ρ _ F (g.then fun u ρ1 g1 v G1 H1 s1 F1 r1 => ?_)⟩
  split at g1
  · rename_i i
    cases r1
    refine hb B A G1 H1 σ ρ1 _ F1 (g1.step s1 fun w ρ2 g2 y G2 H2 s2 F2 r2 => ?_)
    split at g2
    · rename_i j
      cases r2
      split at g2
      · rename_i hj
        rw [Bool.and_eq_true, small_iff, small_iff] at hj
        exact ⟨_, _, rfl, ⟨hj.1.1, hj.1.2, hj.2.1, hj.2.2⟩, g2 _ G2 H2 B A (s1.tr s2) F2 Bk.none Sub.rfl (fun B0 _ => wk_range)⟩
      · exact g2.elim
    · exact g2.elim
  · exact g1.elim
theorem ss_enum {ts : List Expr} {k : Nat} {tp : Pos} (hg : Gl X "enumerate") (hm : X.mg "enumerate" = none) (hs : starEach [e] X.env = [(false, eval e X.env)]) (ih : SE U C cA X e xa) : SSrc cA X (.Tuple ts k tp) (.Call (.Name "enumerate" p) [e] [] pos) (evSrc U C (.enum xa)) := by
  intro W tk
  obtain ⟨t, pa, h⟩ := ih W tk
  refine ⟨_, pi_enum hg hm (pa_cons pa pa_nil hs) hs, fun B A G H σ ρ R F g => h B A G H σ ρ _ F (g.then fun u ρ1 g1 v G1 H1 s1 F1 r1 => ?_)⟩
  split at g1
  · exact g1.elim
  · rename_i xs l nt e1
    obtain ⟨a, vs, G2, B', A', rfl, s2, F2, bk, sB, st, d⟩ := walk_list F1 r1 e1 (fun ys z => nt ys z)
    exact ⟨a, vs, rfl, st B' (fun _ _ _ _ => rfl) G2 H1 Sub.rfl F2.gh F2.bh, g1 _ G2 H1 B' A' (s1.tr s2) F2 bk sB (fun B0 hB => wk_enum (st B0 hB) d)⟩
  · exact g1.elim
theorem ss_zip {ts : List Expr} {k : Nat} {tp : Pos} (hg : Gl X "zip") (hm : X.mg "zip" = none) (hs : starEach [a, b] X.env = (false, eval a X.env) :: starEach [b] X.env) (hs2 : starEach [b] X.env = [(false, eval b X.env)]) (hpl : (backTo pos (starEach [b] X.env)).any (·.1) = false)
    (iha : SE U C cA X a xa) (ihb : SE U C cA X b xb) : SSrc cA X (.Tuple ts k tp) (.Call (.Name "zip" p) [a, b] [] pos) (evSrc U C (.zip xa xb)) := by
  intro W tk
  obtain ⟨ta, pa, ha⟩ := iha W tk
  obtain ⟨tb, pb, hb⟩ := ihb W tk
  refine ⟨_, pi_zipA hg hm (pa_cons pa (pa_cons pb pa_nil hs2) hs) hs hpl, fun B A G H σ ρ R F g => ha B A G H σ ρ _ F (g.then fun u ρ1 g1 v G1 H1 s1 F1 r1 => ?_)⟩
  obtain ⟨x, ρ2, G2, s2, F2, d, g2⟩ := Fin.frozen g1 F1 r1
  refine hb B A G2 H1 σ ρ2 _ F2 (g2.step (s1.tr s2) fun w ρ3 g3 y G3 H3 s3 F3 r3 => ?_)
  obtain ⟨x', ρ4, G4, s4, F4, d', g4⟩ := Fin.frozen g3 F3 r3
  have dx := dp_up (s3.tr s4) d
  split at g4
  · cases dx with
    | lst h1 h2 =>
      cases d' with
      | lst k1 k2 =>
        exact ⟨_, _, _, _, rfl, .inl ⟨sql_up F4.gh h1, sql_up F4.gh k1, g4 _ G4 H3 B A ((s1.tr s2).tr (s3.tr s4)) F4 Bk.none Sub.rfl (fun B0 _ => wk_zip (fun G' H' m1 m2 _ => sql_up (m1.tr m2) h1) h2 (fun G' H' m1 m2 _ => sql_up (m1.tr m2) k1) k2)⟩⟩
  · cases dx with
    | tup h1 h2 =>
      cases d' with
      | tup k1 k2 =>
        exact ⟨_, _, _, _, rfl, .inr ⟨sqt_up F4.gh h1, sqt_up F4.gh k1, g4 _ G4 H3 B A ((s1.tr s2).tr (s3.tr s4)) F4 Bk.none Sub.rfl (fun B0 _ => wk_zipT (fun G' H' m1 m2 _ => sqt_up (m1.tr m2) h1) h2 (fun G' H' m1 m2 _ => sqt_up (m1.tr m2) k1) k2)⟩⟩
  · exact g4.elim
end
end Ev

set_option Elab.async false
set_option linter.all false
set_option maxRecDepth 100000
/-! Comprehensions. -/
namespace Ev
open PySem PySem.Spec PyProof.Rows L2 RZ

theorem wipe_len (ρ : Rho) : ∀ is : List Nat, (wipeR ρ is).length = ρ.length
  | [] => rfl
  | i :: is => by simp [wipeR, wipe_len ρ is]
theorem wipe_in {ρ : Rho} {i : Nat} : ∀ {is : List Nat}, i ∈ is → get (wipeR ρ is) i = .no
  | [], h => by simp at h
  | j :: is, h => by
    simp only [wipeR]
    by_cases e : j = i
    · subst e
      by_cases hl : j < (wipeR ρ is).length
      · exact get_set_same hl
      · unfold get; rw [List.getElem?_eq_none (by simpa using hl)]; rfl
    · rw [get_set_ne e]
      exact wipe_in (by simpa [Ne.symm e] using h)
theorem wipe_out {ρ : Rho} {i : Nat} : ∀ {is : List Nat}, i ∉ is → get (wipeR ρ is) i = get ρ i
  | [], _ => rfl
  | j :: is, h => by
    simp only [List.mem_cons, not_or] at h
    simp only [wipeR]
    rw [get_set_ne (Ne.symm h.1)]
    exact wipe_out h.2
theorem rest_len (ρ0 ρ : Rho) : ∀ is : List Nat, (restore ρ0 ρ is).length = ρ.length
  | [] => rfl
  | i :: is => by simp [restore, rest_len ρ0 ρ is]
theorem rest_in {ρ0 ρ : Rho} {i : Nat} (hl : i < ρ.length) : ∀ {is : List Nat}, i ∈ is → get (restore ρ0 ρ is) i = get ρ0 i
  | [], h => by simp at h
  | j :: is, h => by
    simp only [restore]
    by_cases e : j = i
    · subst e
      exact get_set_same (by rw [rest_len]; exact hl)
    · rw [get_set_ne e]
      exact rest_in hl (by simpa [Ne.symm e] using h)
theorem rest_out {ρ0 ρ : Rho} {i : Nat} : ∀ {is : List Nat}, i ∉ is → get (restore ρ0 ρ is) i = get ρ i
  | [], _ => rfl
  | j :: is, h => by
    simp only [List.mem_cons, not_or] at h
    simp only [restore]
    rw [get_set_ne (Ne.symm h.1)]
    exact rest_out h.2
theorem wipeS_len (σ : L2.St) (is : List Nat) : (L2.wipe σ is).length = σ.length := L2.wipe_length σ is
theorem wipeS_out {σ : L2.St} {i : Nat} {is : List Nat} (h : i ∉ is) : (L2.wipe σ is)[i]? = σ[i]? := L2.wipe_out h
theorem wipe_but {σ σ' : L2.St} {is js : List Nat} (h : But js (L2.wipe σ is) σ') (hj : ∀ j ∈ js, j ∈ is) : L2.wipe σ' is = L2.wipe σ is := by
  have key : ∀ (τ : L2.St) (i : Nat), i ∈ is → i < τ.length → (L2.wipe τ is)[i]? = some none := by
    intro τ i hi hl
    induction is with
    | nil => simp at hi
    | cons k is ih =>
      simp only [L2.wipe]
      by_cases e : k = i
      · subst e
        rw [List.getElem?_set_self (by rw [L2.wipe_length]; exact hl)]
      · rw [List.getElem?_set_ne e]
        clear h hj
        have hi' : i ∈ is := by simpa [Ne.symm e] using hi
        clear ih
        induction is with
        | nil => simp at hi'
        | cons k' is' ih' =>
          simp only [L2.wipe]
          by_cases e' : k' = i
          · subst e'
            rw [List.getElem?_set_self (by rw [L2.wipe_length]; exact hl)]
          · rw [List.getElem?_set_ne e']
            have hi2 : i ∈ is' := by simpa [Ne.symm e'] using hi'
            exact ih' (List.mem_cons_of_mem _ hi2) hi2
  refine List.ext_getElem? fun i => ?_
  by_cases hi : i ∈ is
  · by_cases hl : i < σ.length
    · rw [key σ' i hi (by rw [h.1, wipeS_len]; exact hl), key σ i hi hl]
    · rw [List.getElem?_eq_none (by rw [wipeS_len, h.1, wipeS_len]; omega), List.getElem?_eq_none (by rw [wipeS_len]; omega)]
  · have := h.2 i (fun z => hi (hj i z))
    rw [wipeS_out hi, wipeS_out hi, this, wipeS_out hi]
section
variable {K : Frg} {B G H : Hp} {A : Fix} {σ : L2.St} {ρ : Rho} {is : List Nat}
/-- slots forgotten -/
theorem FR.wipe (F : FR K B A G H σ ρ) (hA : ∀ i ∈ is, A i = none) : FR K B A G H (L2.wipe σ is) (wipeR ρ is) := by
  have old : ∀ {i : Nat} {x : Vr}, get (wipeR ρ is) i = x → x ≠ .no → i ∉ is ∧ get ρ i = x := fun {i x} e n => by
    by_cases h : i ∈ is
    · rw [wipe_in h] at e; exact absurd e.symm n
    · rw [wipe_out h] at e; exact ⟨h, e⟩
  refine ⟨by rw [wipe_len, wipeS_len]; exact F.len, F.gh, F.bh, F.gb, fun i x e => ?_, fun i p c e => ?_, fun i p c e => ?_, fun i j p c p' c' v e1 e2 q1 q2 => ?_, fun i c x e => ?_, fun i a p e => ?_, fun i p l c e q => ?_⟩
  · obtain ⟨h, e'⟩ := old e (by simp)
    rw [wipeS_out h]; exact F.dat i x e'
  · obtain ⟨h, e'⟩ := old e (by simp)
    rw [wipeS_out h]; exact F.own i p c e'
  · obtain ⟨h, e'⟩ := old e (by simp)
    rw [wipeS_out h]; exact F.lck i p c e'
  · obtain ⟨h, e'⟩ := old e1 (by simp)
    obtain ⟨h', e''⟩ := old e2 (by simp)
    rw [wipeS_out h] at q1
    rw [wipeS_out h'] at q2
    exact F.inj i j p c p' c' v e' e'' q1 q2
  · obtain ⟨h, e'⟩ := old e (by simp)
    rw [wipeS_out h]; exact F.exc i c x e'
  · have h : i ∉ is := fun z => by rw [hA i z] at e; cases e
    rw [wipeS_out h, wipe_out h]; exact F.fix i a p e
  · obtain ⟨h, e'⟩ := old e (by simp)
    exact F.fixd i p l c e' q
/-- behind the block: the slots as they were -/
theorem FR.unwipe {G0 H0 B0 : Hp} {ρ0 : Rho} (F : FR K B A G H (L2.wipe σ is) ρ) (F0 : FR K B0 A G0 H0 σ ρ0) (s : Sub G0 G) (hf : ∀ i ∈ is, free ρ0 i = true) : FR K B A G H σ (restore ρ0 ρ is) := by
  have hlen : ρ.length = ρ0.length := by rw [F.len, wipeS_len, F0.len]
  have ne : ∀ {i p l c}, get ρ0 i = .o p l c → i ∉ is := fun {i p l c} e h => by
    have := hf i h
    simp [free, e] at this
  have up : ∀ {i : Nat} {x : Vr}, get (restore ρ0 ρ is) i = x → (i ∈ is ∧ get ρ0 i = x) ∨ (i ∉ is ∧ get ρ i = x) ∨ x = .no := fun {i x} e => by
    by_cases h : i ∈ is
    · by_cases hl : i < ρ.length
      · rw [rest_in hl h] at e; exact .inl ⟨h, e⟩
      · refine .inr (.inr ?_)
        rw [← e]
        unfold get
        rw [List.getElem?_eq_none (by rw [rest_len]; omega)]; rfl
    · rw [rest_out h] at e; exact .inr (.inl ⟨h, e⟩)
  have own : ∀ {i p l c}, get (restore ρ0 ρ is) i = .o p l c → i ∉ is ∧ get ρ i = .o p l c := fun {i p l c} e => by
    rcases up e with ⟨h, z⟩ | z | z
    · exact absurd h (ne z)
    · exact z
    · cases z
  refine ⟨by rw [rest_len, F.len, wipeS_len], F.gh, F.bh, F.gb, fun i x e => ?_, fun i p c e => ?_, fun i p c e => ?_, fun i j p c p' c' v e1 e2 q1 q2 => ?_, fun i c x e => ?_, fun i a p e => ?_, fun i p l c e q => ?_⟩
  · rcases up e with ⟨h, z⟩ | ⟨h, z⟩ | z
    · obtain ⟨v, k1, k2⟩ := F0.dat i x z
      exact ⟨v, k1, dp_up s k2⟩
    · have := F.dat i x z
      rw [wipeS_out h] at this; exact this
    · cases z
  · obtain ⟨h, e'⟩ := own e
    have := F.own i p c e'
    rw [wipeS_out h] at this; exact this
  · obtain ⟨h, e'⟩ := own e
    have := F.lck i p c e'
    rw [wipeS_out h] at this; exact this
  · obtain ⟨h, e'⟩ := own e1
    obtain ⟨h', e''⟩ := own e2
    rw [← wipeS_out h] at q1
    rw [← wipeS_out h'] at q2
    exact F.inj i j p c p' c' v e' e'' q1 q2
  · rcases up e with ⟨h, z⟩ | ⟨h, z⟩ | z
    · obtain ⟨v, k1, k2⟩ := F0.exc i c x z
      exact ⟨v, k1, k2.up s⟩
    · have := F.exc i c x z
      rw [wipeS_out h] at this; exact this
    · cases z
  · obtain ⟨k0, l0, c0, k1, _⟩ := F0.fix i a p e
    have h := ne k1
    obtain ⟨m1, l, c, m2, m3⟩ := F.fix i a p e
    rw [wipeS_out h] at m1
    exact ⟨m1, l, c, by rw [rest_out h]; exact m2, m3⟩
  · obtain ⟨h, e'⟩ := own e
    exact F.fixd i p l c e' q
/-- an own object that the frame does not know, beside -/
theorem FR.more (F : FR K B A G H σ ρ) {D : Addr} {o : HO} (hD : H D = none) : FR K (upd B D o) A G (upd H D o) σ ρ := by
  have F1 := F.new (New.own (o := o) F.gh hD)
  refine ⟨F1.len, F1.gh, ?_, fun a u e => ?_, F1.dat, fun i p c e => ?_, fun i p c e => ?_, F1.inj, F1.exc, F1.fix, F1.fixd⟩
  · exact F.bh.upd
  · have : a ≠ D := fun z => by subst z; rw [none_of_sub F.gh hD] at e; cases e
    rw [upd_ne this]; exact F.gb a u e
  · obtain ⟨a, k1, k2, k3, k4⟩ := F.own i p c e
    obtain ⟨u, hu⟩ := k4.some
    have : a ≠ D := fun z => by subst z; rw [hD] at hu; cases hu
    exact ⟨a, k1, k2, by rw [upd_ne this]; exact k3, k4.up Sub.rfl (upd_ne this)⟩
  · obtain ⟨a, xs, vs, k1, k2, k3, k4⟩ := F.lck i p c e
    exact ⟨a, xs, vs, k1, k2, (Sub.add (none_of_sub F.bh hD)) _ _ k3, k4⟩
/-- its content changes -/
theorem FR.swap {D : Addr} {o o' : HO} (F : FR K (upd B D o) A G H σ ρ) (hD : ∀ i a p, A i = some (a, p) → a ≠ D) : FR K (upd B D o') A G (upd H D o') σ ρ := by
  have hG : G D = none := by
    cases q : G D with
    | none => rfl
    | some u => have := F.gb D u q; rw [upd_same] at this; cases this
  refine ⟨F.len, fun a u e => ?_, fun a u e => ?_, fun a u e => ?_, F.dat, fun i p c e => ?_, fun i p c e => ?_, F.inj, F.exc, F.fix, F.fixd⟩
  · have : a ≠ D := fun z => by subst z; rw [hG] at e; cases e
    rw [upd_ne this]; exact F.gh a u e
  · by_cases h : a = D
    · subst h; rw [upd_same] at e ⊢; exact e
    · rw [upd_ne h] at e ⊢
      exact F.bh a u (by rw [upd_ne h]; exact e)
  · have h : a ≠ D := fun z => by subst z; rw [hG] at e; cases e
    have := F.gb a u e
    rw [upd_ne h] at this ⊢; exact this
  · obtain ⟨a, k1, k2, k3, k4⟩ := F.own i p c e
    have h : a ≠ D := fun z => by subst z; rw [upd_same] at k3; cases k3
    rw [upd_ne h] at k3
    exact ⟨a, k1, k2, by rw [upd_ne h]; exact k3, k4.up Sub.rfl (upd_ne h)⟩
  · obtain ⟨a, xs, vs, k1, k2, k3, k4⟩ := F.lck i p c e
    obtain ⟨b, hb⟩ := F.fixd i p true c e (by simp)
    obtain ⟨m1, _⟩ := F.fix i b p hb
    rw [k1] at m1; cases m1
    have h := hD i _ p hb
    rw [upd_ne h] at k3
    exact ⟨_, xs, vs, k1, k2, by rw [upd_ne h]; exact k3, k4⟩
/-- it is no longer looked after -/
theorem FR.less {D : Addr} {o : HO} (F : FR K (upd B D o) A G H σ ρ) (hB : B D = none) (hD : ∀ i a p, A i = some (a, p) → a ≠ D) : FR K B A G H σ ρ := by
  have s : Sub B (upd B D o) := Sub.add hB
  refine ⟨F.len, F.gh, s.tr F.bh, fun a u e => none_of_sub s (F.gb a u e), F.dat, fun i p c e => ?_, fun i p c e => ?_, F.inj, F.exc, F.fix, F.fixd⟩
  · obtain ⟨a, k1, k2, k3, k4⟩ := F.own i p c e
    exact ⟨a, k1, k2, none_of_sub s k3, k4⟩
  · obtain ⟨a, xs, vs, k1, k2, k3, k4⟩ := F.lck i p c e
    obtain ⟨b, hb⟩ := F.fixd i p true c e (by simp)
    obtain ⟨m1, _⟩ := F.fix i b p hb
    rw [k1] at m1; cases m1
    have h := hD i _ p hb
    rw [upd_ne h] at k3
    exact ⟨_, xs, vs, k1, k2, k3, k4⟩
theorem FR.fixNe (F : FR K B A G H σ ρ) {D : Addr} (hD : H D = none) : ∀ i a p, A i = some (a, p) → a ≠ D := fun i a p e z => by
  subst z
  obtain ⟨k1, l, c, k2, k3⟩ := F.fix i a p e
  cases l with
  | false =>
    obtain ⟨b, m1, _, _, m4⟩ := F.own i p c k2
    rw [k1] at m1; cases m1
    obtain ⟨u, hu⟩ := m4.some
    rw [hD] at hu; cases hu
  | true =>
    obtain ⟨b, xs, vs, m1, _, m3, _⟩ := F.lck i p c k2
    rw [k1] at m1; cases m1
    rw [F.bh _ _ m3] at hD; cases hD
end

theorem takesNo (X : Cx) : Takes X (fun _ _ _ _ => False) := fun u s' x => by
  obtain ⟨_, _, _, _, _, _, _, _, _, _, _, _, _, _, _, _, h⟩ := x
  exact h.elim
/-- the tests of a block -/
def SCs (cA : Nat → Addr) (X : Cx) (es : List Expr) (o : Rho → Out Bool) : Prop := ∀ W, Takes X W → ∃ t, PTs X es t ∧ ∀ B A G H σ ρ Q, FR X.K B A G H σ ρ → FinB ⟨X.K, B, A, σ, W, cA⟩ G Q (o ρ) → t σ H Q
section
variable {U : Consts} {C : Calls} {cA : Nat → Addr} {X : Cx}
theorem scs_nil : SCs cA X [] (evConds U C .nil) := fun W tk => ⟨_, pts_nil, fun B A G H σ ρ Q F g => g G H Sub.rfl F⟩
theorem scs_one {e : Expr} {xa : Ex} {r : Exs} (ih : ST U C cA X e xa) : SCs cA X [e] (evConds U C (.cons xa r)) := fun W tk => let ⟨t, p, h⟩ := ih W tk; ⟨_, pts_one p, h⟩

theorem fin_noExc {α : Type} {P : α → Rho → Prop} {PX : Nat → PyData → Rho → Prop} {o : Out α} (h : Fin P PX (noExc o)) : Fin P (fun _ _ _ => False) o := by
  cases o with
  | stuck => exact h
  | ok a ρ => exact h
  | exc c x ρ => exact h
/-- readings that no context is in -/
def tCan (K : Frg) (cA : Nat → Addr) (W : WX) (o : Rho → Out EV) : TE := fun σ H Q => ∃ B A G ρ, FR K B A G H σ ρ ∧ FinV ⟨K, B, A, σ, W, cA⟩ G Q (o ρ)
def bCan (K : Frg) (cA : Nat → Addr) (W : WX) (o : Rho → Out Bool) : TT := fun σ H Q => ∃ B A G ρ, FR K B A G H σ ρ ∧ FinB ⟨K, B, A, σ, W, cA⟩ G Q (o ρ)
def gCan (K : Frg) (T : Tg) : TG := fun v σ H Q => ∃ B A G ρ x ρ', FR K B A G H σ ρ ∧ Dp K G v x ∧ T.to x ρ = some ρ' ∧ ∀ σ', FR K B A G H σ' ρ' → But T.slots σ σ' → Q σ' H
theorem so_can {e : Expr} {o : Rho → Out EV} (h : SO cA X e o) {W : WX} (tk : Takes X W) : PE X e (tCan X.K cA W o) := by
  obtain ⟨t, p, k⟩ := h W tk
  exact ⟨fun pins s σ H Q I ⟨B, A, G, ρ, F, g⟩ => p.run pins s σ H Q I (k B A G H σ ρ Q F g)⟩
theorem scs_can {es : List Expr} {o : Rho → Out Bool} (h : SCs cA X es o) {W : WX} (tk : Takes X W) : PTs X es (bCan X.K cA W o) := by
  obtain ⟨t, p, k⟩ := h W tk
  exact ⟨fun pins s σ H Q I ⟨B, A, G, ρ, F, g⟩ => p.run pins s σ H Q I (k B A G H σ ρ Q F g)⟩
theorem stg_can {tg : Expr} {T : Tg} (h : STg X tg T) : PG X tg (gCan X.K T) := by
  obtain ⟨g, p, k⟩ := h
  exact ⟨fun pins s σ H v u Q I r ⟨B, A, G, ρ, x, ρ', F, d, e, q⟩ => p.run pins s σ H v u Q I r (k B A G H σ ρ v x ρ' Q F d e q)⟩

theorem lock_own {ρ : Rho} {l : Option Nat} {i : Nat} {p b : Bool} {c : Con} (h : get (lock ρ l) i = .o p b c) : ∃ b', get ρ i = .o p b' c := by
  cases l with
  | none => exact ⟨b, h⟩
  | some j =>
    simp only [lock] at h
    rw [get_set] at h
    split at h
    · rename_i q
      obtain ⟨rfl, _⟩ := q
      cases e : get ρ j with
      | no => rw [e] at h; cases h
      | d x => rw [e] at h; cases h
      | x c y => rw [e] at h; cases h
      | o p' b' c' => rw [e] at h; cases h; exact ⟨b', rfl⟩
    · exact ⟨b, h⟩
theorem unlock_own {ρ : Rho} {l : Option Nat} {i : Nat} {p b : Bool} {c : Con} (h : get (unlock ρ l) i = .o p b c) : ∃ b', get ρ i = .o p b' c := by
  cases l with
  | none => exact ⟨b, h⟩
  | some j =>
    simp only [unlock] at h
    rw [get_set] at h
    split at h
    · rename_i q
      obtain ⟨rfl, _⟩ := q
      cases e : get ρ j with
      | no => rw [e] at h; cases h
      | d x => rw [e] at h; cases h
      | x c y => rw [e] at h; cases h
      | o p' b' c' => rw [e] at h; cases h; exact ⟨b', rfl⟩
    · exact ⟨b, h⟩
theorem lock_free {ρ : Rho} {l : Option Nat} {i : Nat} (h : free ρ i = true) : get (lock ρ l) i = get ρ i := by
  cases l with
  | none => rfl
  | some j =>
    simp only [lock]
    rw [get_set]
    split
    · rename_i q
      obtain ⟨rfl, _⟩ := q
      cases e : get ρ j with
      | no => rfl
      | d x => rfl
      | x c y => rfl
      | o p' b' c' => simp [free, e] at h
    · rfl
theorem rest_congr {ρ0 ρ0' ρ : Rho} : ∀ {is : List Nat}, (∀ i ∈ is, get ρ0 i = get ρ0' i) → restore ρ0 ρ is = restore ρ0' ρ is
  | [], _ => rfl
  | i :: is, h => by
    simp only [restore]
    rw [rest_congr fun j hj => h j (List.mem_cons_of_mem _ hj), h i (List.mem_cons_self ..)]
theorem bind_assoc' {α β γ : Type} {o : Out α} {f : α → Rho → Out β} {g : β → Rho → Out γ} : (o.bind f).bind g = o.bind fun a ρ => (f a ρ).bind g := by
  cases o <;> rfl
theorem frozen2 {Γ : Cn} {G' H : Hp} {ρ : Rho} {α : Type} {R : α → Rho → Prop} {Ex' : Nat → PyData → Rho → Prop} {u : EV} {v : V} {f : PyData → Rho → Out α} (h : Fin R Ex' ((fz ρ u).bind f)) (F : Γ.F G' H ρ) (r : RelEV Γ.K Γ.B G' H Γ.σ ρ v u) :
    ∃ x ρ' G'', Sub G' G'' ∧ Γ.F G'' H ρ' ∧ Dp Γ.K G'' v x ∧ Fin R Ex' (f x ρ') := by
  cases q : fz ρ u with
  | stuck => rw [q] at h; exact h.elim
  | exc c x ρ' => exact (fz_exc q).elim
  | ok x ρ' =>
    rw [q] at h
    obtain ⟨G'', h1, h2, h3⟩ := Ev.frozen F r q
    exact ⟨x, ρ', G'', h1, h2, h3, h⟩
theorem fin_no {α : Type} {P : α → Rho → Prop} {Γ : Cn} {G : Hp} {o : Out α} (h : Fin P (fun _ _ _ => False) o) : Fin P (PX Γ G) o := h.imp (fun _ _ z => z) fun _ _ _ z => z.elim
theorem lcL_step {own : List Nat} {g : PyData → Rho → Option Rho} {cs : Rho → Out Bool} {e : Rho → Out PyData} {x : PyData} {r acc : List PyData} {ρ : Rho} {P : List PyData → Rho → Prop} (h : Fin P (fun _ _ _ => False) (lcL own g cs e (x :: r) acc ρ)) :
    ∃ ρ1, g x ρ = some ρ1 ∧ Fin P (fun _ _ _ => False) ((cs ρ1).bind fun b ρ2 => if b then (e ρ2).bind fun y ρ3 => if acc.length < sizeLine then lcL own g cs e r (acc ++ [y]) (wipeR ρ3 own) else .stuck else lcL own g cs e r acc (wipeR ρ2 own)) := by
  simp only [lcL] at h
  cases q : g x ρ with
  | none => simp only [q] at h; exact h.elim
  | some ρ1 => simp only [q] at h; exact ⟨ρ1, rfl, h⟩
theorem se_lc {elt tg iter : Expr} {ifs : List Expr} {scope : Scope} {own : List (Str × Nat)} {pos : Pos} {xs : Src} {xc : Exs} {xe : Ex} {T : Tg} (hc : X.calm = true) (hN : X.N.Nodup) (ok : BlkOk X.N X.env.scope scope own) (hs : ∀ x, foldedSetIterable iter X.env x = pure x)
    (hT : ∀ i ∈ T.slots, i ∈ own.map (·.2))
    (hi : SSrc cA X tg iter (evSrc U C xs)) (hg : ∀ (s : Shared) (H : Hp) (D : Addr) (cl : List (Str × Addr)) (fp : List Addr), STg (X.blk s H scope (compEnvC scope cl D X.env) fp) tg T)
    (ht : ∀ (s : Shared) (H : Hp) (D : Addr) (cl : List (Str × Addr)) (fp : List Addr), SCs cA (X.blk s H scope (compEnvC scope cl D X.env) fp) ifs (evConds U C xc))
    (he : ∀ (s : Shared) (H : Hp) (D : Addr) (cl : List (Str × Addr)) (fp : List Addr), SE U C cA (X.blk s H scope (compEnvC scope cl D X.env) fp) elt xe) :
    ∀ W, Takes X W → ∃ t wi g tt te, t = tLc wi g tt te (own.map (·.2)) ∧ PI X tg iter wi ∧
      (∀ (s : Shared) (H : Hp) (D : Addr) (cl : List (Str × Addr)) (fp : List Addr), PG (X.blk s H scope (compEnvC scope cl D X.env) fp) tg g) ∧
      (∀ (s : Shared) (H : Hp) (D : Addr) (cl : List (Str × Addr)) (fp : List Addr), PTs (X.blk s H scope (compEnvC scope cl D X.env) fp) ifs tt) ∧
      (∀ (s : Shared) (H : Hp) (D : Addr) (cl : List (Str × Addr)) (fp : List Addr), PE (X.blk s H scope (compEnvC scope cl D X.env) fp) elt te) ∧
      ∀ B A G H σ ρ Q, FR X.K B A G H σ ρ → FinV ⟨X.K, B, A, σ, W, cA⟩ G Q (evE U C (.lc (own.map (·.2)) T xs xc xe) ρ) → t σ H Q := by
  intro W tk
  obtain ⟨wi, pi, hw⟩ := hi W tk
  let W0 : WX := fun _ _ _ _ => False
  refine ⟨_, wi, gCan X.K T, bCan X.K cA W0 (evConds U C xc), tCan X.K cA W0 (evE U C xe), rfl, pi, fun s H D cl fp => stg_can (hg s H D cl fp), fun s H D cl fp => scs_can (ht s H D cl fp) (takesNo _), fun s H D cl fp => so_can (he s H D cl fp) (takesNo _), fun B A G H σ ρ Q F g => ?_⟩
  generalize hown : own.map (·.2) = vs at *
  refine hw B A G H σ ρ _ F ((show Fin _ _ ((evSrc U C xs ρ).bind _) from g).then fun il ρ1 g1 J G1 H1 B' A' s1 F1 bk sB wk => ?_)
  have wk := wk B' fun _ _ _ _ => rfl
  obtain ⟨items, l⟩ := il
  split at g1
  · rename_i hfree
    simp only [List.all_eq_true] at hfree
    have g2 : Fin (fun ys ρ2 => FinV ⟨X.K, B, A, σ, W, cA⟩ G Q (.ok (.o (.lst ys)) (unlock (restore ρ1 ρ2 vs) l))) (fun _ _ _ => False) (lcL vs T.to (evConds U C xc) (fun ρ => (evE U C xe ρ).bind fun v ρ' => fz ρ' v) items [] (wipeR (lock ρ1 l) vs)) := fin_noExc g1.bind
    clear g1
    have hA : ∀ i ∈ vs, A' i = none := fun i hi => by
      cases q : A' i with
      | none => rfl
      | some z =>
        obtain ⟨a, b⟩ := z
        obtain ⟨_, l', c, k2, _⟩ := F1.fix i a b q
        have := lock_own k2
        obtain ⟨l2, k3⟩ := this
        have f := hfree i hi
        simp [free, k3] at f
    refine fun D hD => ⟨fun i m H2 => i ≤ items.length ∧ m = items.length - i ∧ ∃ G2 ρ2 acc accd, Sub G1 G2 ∧ FR X.K (upd B' D (.lst acc)) A' G2 H2 (L2.wipe σ vs) ρ2 ∧ DpAll X.K G2 acc accd ∧
      Fin (fun ys ρ2 => FinV ⟨X.K, B, A, σ, W, cA⟩ G Q (.ok (.o (.lst ys)) (unlock (restore ρ1 ρ2 vs) l))) (fun _ _ _ => False) (lcL vs T.to (evConds U C xc) (fun ρ => (evE U C xe ρ).bind fun v ρ' => fz ρ' v) (items.drop i) accd ρ2), ⟨_, Nat.zero_le _, rfl, G1, _, [], [], Sub.rfl, (F1.wipe hA).more hD, .nil, g2⟩, ?_⟩
    have hB' : B' D = none := none_of_sub F1.bh hD
    have hNe := F1.fixNe hD
    rintro i m H2 ⟨hi, rfl, G2, ρ2, acc, accd, s2, F2, ds, g3⟩
    have sB2 : ∀ {o : HO}, Sub B' (upd B' D o) := Sub.add hB'
    rcases Nat.lt_or_ge i items.length with hlt | hge
    · refine .inr ⟨wk.go i G2 H2 s2 F2.gh (sB2.tr F2.bh) hlt, _, fun H' h => h, fun x H3 hy => ?_⟩
      have e1 : items[i]? = some (items[i]'hlt) := List.getElem?_eq_getElem _
      obtain ⟨G3, n3, d3⟩ := wk.yld i G2 H2 x H3 _ s2 F2.gh (sB2.tr F2.bh) e1 hy
      have F3 := F2.new n3
      rw [List.drop_eq_getElem_cons hlt] at g3
      obtain ⟨ρ3, e3, g4⟩ := lcL_step g3
      have ds3 := dps_up n3.gg ds
      refine ⟨_, _, G3, ρ2, _, ρ3, F3, d3, e3, fun σ' F' hb => ⟨wipe_but hb hT, ?_⟩⟩
      have wb := wipe_but hb hT
      refine ⟨_, _, G3, ρ3, F', g4.bind.imp (fun b ρ4 g5 G5 H5 s5 F5 => ?_) fun _ _ _ z => z.elim⟩
      cases b with
      | false =>
        rw [if_neg Bool.false_ne_true] at g5 ⊢
        refine ⟨items.length - (i + 1), by omega, by omega, rfl, G5, _, acc, accd, (s2.tr n3.gg).tr s5, ?_, dps_up s5 ds3, g5⟩
        rw [← wb]
        exact F5.wipe hA
      | true =>
        rw [if_pos rfl] at g5 ⊢
        rw [bind_assoc'] at g5
        refine ⟨_, _, G5, ρ4, F5, g5.bind.imp (fun u ρ5 g6 v G6 H6 s6 F6 r6 => ?_) fun _ _ _ z => z.elim⟩
        obtain ⟨y, ρ7, G7, s7, F7, d7, g7⟩ := frozen2 (Γ := ⟨X.K, upd B' D (.lst acc), A', σ', W0, cA⟩) g6 F6 r6
        split at g7
        · rename_i hlen
          refine ⟨acc, F7.bh _ _ upd_same, by rw [dps_len ds3]; exact hlen, items.length - (i + 1), by omega, by omega, rfl, G7, wipeR ρ7 vs, acc ++ [v], accd ++ [y], (((s2.tr n3.gg).tr s5).tr s6).tr s7, ?_, dps_app (dps_up ((s5.tr s6).tr s7) ds3) (dps_one d7), ?_⟩
          · rw [← wb]
            exact (F7.swap hNe).wipe hA
          · exact g7
        · exact g7.elim
    · have he : i = items.length := by omega
      subst he
      rw [List.drop_length] at g3
      refine .inl ⟨wk.stop G2 H2 s2 F2.gh (sB2.tr F2.bh), ?_⟩
      have hl : ∀ i ∈ vs, get (lock ρ1 l) i = get ρ1 i := fun i hi => lock_free (hfree i hi)
      have F4 := F2.unwipe F1 s2 (fun i hi => by
        have := hfree i hi
        unfold free at this ⊢
        rw [hl i hi]; exact this)
      rw [rest_congr hl] at F4
      have F5 := bk.1 _ _ _ _ (F4.less hB' hNe)
      have hGD : G2 D = none := by
        cases q : G2 D with
        | none => rfl
        | some u => have := F4.gb D u q; rw [upd_same] at this; cases this
      refine g3 (.ref D) G2 H2 (s1.tr s2) F5 ⟨D, rfl, hGD, none_of_sub sB hB', ⟨acc, F4.bh _ _ upd_same, ds⟩, fun i p c' e z => ?_⟩
      obtain ⟨l', e'⟩ := unlock_own e
      cases l' with
      | false =>
        obtain ⟨a, k1, _, k3, _⟩ := F4.own i p c' e'
        rw [k1] at z; cases z
        rw [upd_same] at k3; cases k3
      | true =>
        obtain ⟨a, _, _, k1, _⟩ := F4.lck i p c' e'
        obtain ⟨b, hb⟩ := F4.fixd i p true c' e' (by simp)
        obtain ⟨m1, _⟩ := F4.fix i b p hb
        rw [m1] at z; cases z
        exact hNe i _ p hb rfl
  · exact g1.elim
end
end Ev

set_option Elab.async false
set_option linter.all false
set_option maxRecDepth 100000
/-! Statements: the evaluator is sound. -/
namespace Ev
open PySem PySem.Spec PyProof.Rows L2

structure Cs where
  K : Frg
  B : Hp
  A : Fix
  W : WX
  cA : Nat → Addr
abbrev Cs.at (Δ : Cs) (σ : L2.St) : Cn := ⟨Δ.K, Δ.B, Δ.A, σ, Δ.W, Δ.cA⟩
/-- a value that leaves the frame -/
def RelAV (Δ : Cs) (G H : Hp) (v : V) : AV → Prop
  | .d x => Dp Δ.K G v x
  | .o c => ∃ a, v = .ref a ∧ G a = none ∧ Δ.B a = none ∧ ConAt Δ.K G H a c ∧ ∀ i b, Δ.A i = some (b, true) → b ≠ a
  | .x c y => XAt Δ.K G v c y
def SF (Δ : Cs) (G : Hp) (D : Ends) (f : Fl) (ρ : Rho) : Prop :=
  match f with
  | .nx => ∀ σ' G' H', Sub G G' → FR Δ.K Δ.B Δ.A G' H' σ' ρ → D.nx σ' H'
  | .bk => ∀ σ' G' H', Sub G G' → FR Δ.K Δ.B Δ.A G' H' σ' ρ → D.bk σ' H'
  | .ct => ∀ σ' G' H', Sub G G' → FR Δ.K Δ.B Δ.A G' H' σ' ρ → D.ct σ' H'
  | .ret r => ∀ v σ' G' H', Sub G G' → FR Δ.K Δ.B Δ.A G' H' σ' ρ → RelAV Δ G' H' v r → D.rt v H'
def SX (Δ : Cs) (G : Hp) (c : Nat) (x : PyData) (ρ : Rho) : Prop := ∀ cls d σ' G' H', Sub G G' → FR Δ.K Δ.B Δ.A G' H' σ' ρ → ExcAt Δ.K Δ.cA G' cls d c x → Δ.W cls d σ' H'
abbrev FinS (Δ : Cs) (G : Hp) (D : Ends) (o : Out Fl) : Prop := Fin (SF Δ G D) (SX Δ G) o
theorem SF.up {Δ : Cs} {G G1 : Hp} {D : Ends} {f : Fl} {ρ : Rho} (h : SF Δ G D f ρ) (s : Sub G G1) : SF Δ G1 D f ρ := by
  cases f with
  | nx => exact fun σ' G' H' s' => h σ' G' H' (s.tr s')
  | bk => exact fun σ' G' H' s' => h σ' G' H' (s.tr s')
  | ct => exact fun σ' G' H' s' => h σ' G' H' (s.tr s')
  | ret r => exact fun v σ' G' H' s' => h v σ' G' H' (s.tr s')
theorem SX.up {Δ : Cs} {G G1 : Hp} {c : Nat} {x : PyData} {ρ : Rho} (h : SX Δ G c x ρ) (s : Sub G G1) : SX Δ G1 c x ρ := fun cls d σ' G' H' s' => h cls d σ' G' H' (s.tr s')
theorem FinS.up {Δ : Cs} {G G1 : Hp} {D : Ends} {o : Out Fl} (h : FinS Δ G D o) (s : Sub G G1) : FinS Δ G1 D o := Fin.imp h (fun _ _ z => z.up s) fun _ _ _ z => z.up s
/-- an expression ahead of a statement's rest -/
theorem Fin.ex {Δ : Cs} {G G1 : Hp} {σ : L2.St} {D : Ends} {α : Type} {P : α → Rho → Prop} {o : Out α} {f : α → Rho → Out Fl} (h : FinS Δ G D (o.bind f)) (s : Sub G G1) (k : ∀ a ρ, FinS Δ G D (f a ρ) → P a ρ) : Fin P (PX (Δ.at σ) G1) o :=
  h.bind.imp k fun c x ρ z cls d G' H' s' F e => z cls d σ G' H' (s.tr s') F e

section
variable (cA : Nat → Addr) (X : Cx)
def S1 (st : Stmt) (o : Rho → Out Fl) : Prop := ∀ W, Takes X W → ∃ t, PS X st t ∧ ∀ B A G H σ ρ D, FR X.K B A G H σ ρ → FinS ⟨X.K, B, A, W, cA⟩ G D (o ρ) → t D σ H
def SN (st : List Stmt) (o : Rho → Out Fl) : Prop := ∀ W, Takes X W → ∃ t, PSs X st t ∧ ∀ B A G H σ ρ D, FR X.K B A G H σ ρ → FinS ⟨X.K, B, A, W, cA⟩ G D (o ρ) → t D σ H
end
section
variable {U : Consts} {C : Calls} {cA : Nat → Addr} {X : Cx} {e e1 e2 : Expr} {xe xa xb : Ex} {st : Stmt} {rest : List Stmt} {s : St} {r : Sts} {pos p : Pos}
theorem sn_nil : SN cA X [] (runSs U C .nil) := fun W tk => ⟨_, pss_nil, fun B A G H σ ρ D F g => g σ G H Sub.rfl F⟩
theorem runSs_cons {ρ : Rho} : runSs U C (.cons s r) ρ = (runS U C s ρ).bind fun f ρ1 => match f with
    | .nx => runSs U C r ρ1
    | .ret r => .ok (.ret r) ρ1
    | .bk => .ok .bk ρ1
    | .ct => .ok .ct ρ1 := by
  first
    | rfl
    | (rw [runSs]; done)
    | (rw [runSs]; congr)
theorem sn_cons (h1 : S1 cA X st (runS U C s)) (h2 : SN cA X rest (runSs U C r)) : SN cA X (st :: rest) (runSs U C (.cons s r)) := by
  intro W tk
  obtain ⟨t, p1, k1⟩ := h1 W tk
  obtain ⟨u, p2, k2⟩ := h2 W tk
  refine ⟨_, pss_cons p1 p2, fun B A G H σ ρ D F g => ?_⟩
  rw [runSs_cons] at g
  refine k1 B A G H σ ρ _ F (g.bind.imp (fun f ρ1 g1 => ?_) fun _ _ _ z => z)
  cases f with
  | nx => exact fun σ' G' H' s' F' => k2 B A G' H' σ' ρ1 D F' (FinS.up (show FinS ⟨X.K, B, A, W, cA⟩ G D (runSs U C r ρ1) from g1) s')
  | bk => exact g1
  | ct => exact g1
  | ret r => exact g1
theorem s1_pass : S1 cA X (.Pass pos) (runS U C .pass) := fun W tk => ⟨_, ps_pass, fun B A G H σ ρ D F g => g σ G H Sub.rfl F⟩
theorem s1_brk : S1 cA X (.Break pos) (runS U C .brk) := fun W tk => ⟨_, ps_break, fun B A G H σ ρ D F g => g σ G H Sub.rfl F⟩
theorem s1_cnt : S1 cA X (.Continue pos) (runS U C .cnt) := fun W tk => ⟨_, ps_continue, fun B A G H σ ρ D F g => g σ G H Sub.rfl F⟩
theorem s1_retN : S1 cA X (.Return none pos) (runS U C .retN) := fun W tk => ⟨_, ps_retN, fun B A G H σ ρ D F g => g .non σ G H Sub.rfl F .non⟩
theorem s1_exs (ih : SE U C cA X e xe) (hs : swapsWith e none pos.line X.env = pure false) : S1 cA X (.Expr e pos) (runS U C (.exs xe)) := by
  intro W tk
  obtain ⟨t, p, h⟩ := ih W tk
  exact ⟨_, ps_expr p hs, fun B A G H σ ρ D F g => h B A G H σ ρ _ F (Fin.ex g Sub.rfl fun u ρ1 g1 v G1 H1 s1 F1 r1 => g1 σ G1 H1 s1 F1)⟩

/-- what a slot holds at a return -/
theorem fix_ne {K : Frg} {B G H : Hp} {A : Fix} {σ : L2.St} {ρ : Rho} (F : FR K B A G H σ ρ) {a : Addr} (hB : B a = none) (hn : ∀ i p c, get ρ i = .o p false c → (p = true) → σ[i]? ≠ some (some (.ref a))) : ∀ i b, A i = some (b, true) → b ≠ a := fun i b e z => by
  subst z
  obtain ⟨k1, l, c, k2, k3⟩ := F.fix i b true e
  cases l with
  | false => exact hn i true c k2 rfl k1
  | true =>
    obtain ⟨a', _, _, m1, _, m3, _⟩ := F.lck i true c k2
    rw [k1] at m1; cases m1
    rw [hB] at m3; cases m3
theorem FR.noSlot {K : Frg} {B G H : Hp} {A : Fix} {σ : L2.St} {ρ : Rho} (F : FR K B A G H σ ρ) {i : Nat} {c : Con} (e : get ρ i = .o false false c) : FR K B A G H σ (ρ.set i .no) := by
  have hl : i < ρ.length := get_lt (by rw [e]; simp)
  have old : ∀ {j : Nat} {x : Vr}, get (ρ.set i .no) j = x → x ≠ .no → j ≠ i ∧ get ρ j = x := fun {j x} z n => by
    by_cases h : j = i
    · subst h; rw [get_set_same hl] at z; exact absurd z.symm n
    · rw [get_set_ne (Ne.symm h)] at z; exact ⟨h, z⟩
  refine ⟨by simp [F.len], F.gh, F.bh, F.gb, fun j x z => F.dat j x (old z (by simp)).2, fun j p c z => F.own j p c (old z (by simp)).2, fun j p c z => F.lck j p c (old z (by simp)).2, fun j k p c p' c' v z1 z2 => F.inj j k p c p' c' v (old z1 (by simp)).2 (old z2 (by simp)).2, fun j c x z => F.exc j c x (old z (by simp)).2, fun j a p z => ?_, fun j p l c z q => F.fixd j p l c (old z (by simp)).2 q⟩
  obtain ⟨h1, l, c', h2, h3⟩ := F.fix j a p z
  have h : j ≠ i := fun q => by
    subst q; rw [e] at h2; cases h2; cases h3
  exact ⟨h1, l, c', by rw [get_set_ne (Ne.symm h)]; exact h2, h3⟩
theorem s1_ret (ih : SE U C cA X e xe) : S1 cA X (.Return (some e) pos) (runS U C (.ret xe)) := by
  intro W tk
  obtain ⟨t, p, h⟩ := ih W tk
  refine ⟨_, ps_ret p, fun B A G H σ ρ D F g => h B A G H σ ρ _ F (Fin.ex g Sub.rfl fun u ρ1 g1 v G1 H1 s1 F1 r1 => ?_)⟩
  cases u with
  | d x => exact g1 v σ G1 H1 s1 F1 r1
  | x c y => exact g1 v σ G1 H1 s1 F1 r1
  | o c =>
    obtain ⟨a, rfl, h2, h3, h4, h5⟩ := r1
    exact g1 _ σ G1 H1 s1 F1 ⟨a, rfl, h2, h3, h4, fix_ne F1 h3 fun i p c' e _ => h5 i p c' e⟩
  | b i =>
    simp only [leave] at g1
    split at g1
    · rename_i c q
      obtain ⟨a, k1, k2, k3, k4⟩ := F1.own i _ _ q
      obtain ⟨r1, _⟩ := r1
      rw [k1] at r1; cases r1
      exact g1 _ σ G1 H1 s1 (F1.noSlot q) ⟨a, rfl, k2, k3, k4, fix_ne F1 k3 fun j p c' e hp z => by
        have := F1.inj j i p c' false c _ e q z k1
        subst this
        rw [q] at e; cases e; cases hp⟩
    · exact g1.elim
theorem s1_ite {c : Expr} {a b : List Stmt} {xc : Ex} {ra rb : Sts} (hc : ST U C cA X c xc) (ha : SN cA X a (runSs U C ra)) (hb : SN cA X b (runSs U C rb)) : S1 cA X (.If c a b pos) (runS U C (.ite xc ra rb)) := by
  intro W tk
  obtain ⟨t, p, h⟩ := hc W tk
  obtain ⟨ta, pa, ka⟩ := ha W tk
  obtain ⟨tb, pb, kb⟩ := hb W tk
  refine ⟨_, ps_if p pa pb, fun B A G H σ ρ D F g => ?_⟩
  rw [runS] at g
  refine h B A G H σ ρ _ F (Fin.ex g Sub.rfl fun t ρ1 g1 G1 H1 s1 F1 => ?_)
  cases t with
  | true => exact ka B A G1 H1 σ ρ1 D F1 (FinS.up g1 s1)
  | false => exact kb B A G1 H1 σ ρ1 D F1 (FinS.up g1 s1)
theorem s1_while {c : Expr} {b : List Stmt} {xc : Ex} {rb : Sts} (hp : PassesOwn (model X.prog X.w) X.A X.env X.xe) (hc : ST U C cA X c xc) (hb : SN cA X b (runSs U C rb)) : S1 cA X (.While c b [] pos) (runS U C (.whl xc rb)) := by
  intro W tk
  obtain ⟨t, p, h⟩ := hc W tk
  obtain ⟨tb, pb, kb⟩ := hb W tk
  refine ⟨_, ps_while hp p pb, fun B A G H σ ρ D F g => ?_⟩
  rw [runS] at g
  refine ⟨fun m σ H => ∃ G' ρ', FR X.K B A G' H σ ρ' ∧ FinS ⟨X.K, B, A, W, cA⟩ G' D (whlL (fun ρ => asB (evE U C xc ρ)) (runSs U C rb) m ρ'), ⟨_, G, ρ, F, g⟩, ?_⟩
  rintro m σ1 H1 ⟨G1, ρ1, F1, g1⟩
  cases m with
  | zero => exact g1.elim
  | succ m =>
    rw [whlL] at g1
    refine h B A G1 H1 σ1 ρ1 _ F1 (Fin.ex g1 Sub.rfl fun t ρ2 g2 G2 H2 s2 F2 => ?_)
    cases t with
    | false => exact g2 σ1 G2 H2 s2 F2
    | true =>
      rw [if_pos rfl]
      rw [if_pos rfl] at g2
      refine ⟨fun σ H => ∃ G' ρ', FR X.K B A G' H σ ρ' ∧ FinS ⟨X.K, B, A, W, cA⟩ G' D (whlL (fun ρ => asB (evE U C xc ρ)) (runSs U C rb) m ρ'), fun σ' H' z => ⟨m, Nat.lt_succ_self m, z⟩, ?_⟩
      refine kb B A G2 H2 σ1 ρ2 _ F2 (Fin.imp g2.bind (fun f ρ3 g3 => ?_) fun _ _ _ z => z.up s2)
      cases f with
      | nx => exact fun σ' G' H' s' F' => ⟨G', ρ3, F', FinS.up (show FinS _ _ _ (whlL _ _ m ρ3) from g3) (s2.tr s')⟩
      | ct => exact fun σ' G' H' s' F' => ⟨G', ρ3, F', FinS.up (show FinS _ _ _ (whlL _ _ m ρ3) from g3) (s2.tr s')⟩
      | bk => exact fun σ' G' H' s' F' => g3 σ' G' H' (s2.tr s') F'
      | ret r => exact fun v σ' G' H' s' F' rv => g3 v σ' G' H' (s2.tr s') F' rv

theorem unlock_true {ρ : Rho} {l : Option Nat} {i : Nat} {p : Bool} {c : Con} (h : get (unlock ρ l) i = .o p true c) : get ρ i = .o p true c := by
  cases l with
  | none => exact h
  | some j =>
    simp only [unlock] at h
    rw [get_set] at h
    split at h
    · rename_i q
      obtain ⟨rfl, _⟩ := q
      cases e : get ρ j with
      | no => rw [e] at h; cases h
      | d x => rw [e] at h; cases h
      | x c y => rw [e] at h; cases h
      | o p' b' c' => rw [e] at h; cases h
    · exact h
theorem s1_for {tg iter : Expr} {b : List Stmt} {T : Tg} {xs : Src} {rb : Sts} (hp : PassesOwn (model X.prog X.w) X.A X.env X.xe) (hc : X.calm = true) (hs : ∀ x, foldedSetIterable iter X.env x = pure x)
    (hi : SSrc cA X tg iter (evSrc U C xs)) (hg : STg X tg T) (hb : SN cA X b (runSs U C rb)) : S1 cA X (.For tg iter b [] pos) (runS U C (.forr T xs rb)) := by
  intro W tk
  obtain ⟨wi, pi, hw⟩ := hi W tk
  obtain ⟨tb, pb, kb⟩ := hb W tk
  refine ⟨_, ps_for hp hc pi (stg_can hg) pb hs, fun B A G H σ ρ D F g => ?_⟩
  rw [runS] at g
  refine hw B A G H σ ρ _ F (Fin.ex g Sub.rfl fun il ρ1 g1 J G1 H1 B' A' s1 F1 bk sB wk => ?_)
  have wk := wk B' fun _ _ _ _ => rfl
  obtain ⟨its, l⟩ := il
  have back : ∀ {v G' H' r}, RelAV ⟨X.K, B', A', W, cA⟩ G' H' v r → RelAV ⟨X.K, B, A, W, cA⟩ G' H' v r := fun {v G' H' r} h => by
    cases r with
    | d x => exact h
    | x c y => exact h
    | o c =>
      obtain ⟨a, rfl, h2, h3, h4, h5⟩ := h
      refine ⟨a, rfl, h2, none_of_sub sB h3, h4, fun i b e z => ?_⟩
      have F0 := bk.1 _ _ _ _ F1
      obtain ⟨k1, l', c', k2, k3⟩ := F0.fix i b true e
      obtain ⟨l2, k4⟩ := unlock_own k2
      obtain ⟨b', hb'⟩ := F1.fixd i true l2 c' k4 (by simp)
      obtain ⟨m1, _⟩ := F1.fix i b' true hb'
      have : b' = b := by
        have k1' : σ[i]? = some (some (V.ref b)) := k1
        have m1' : σ[i]? = some (some (V.ref b')) := m1
        rw [k1'] at m1'; cases m1'; rfl
      subst this
      exact h5 i _ hb' z
  have g2 : Fin (fun f ρ2 => SF ⟨X.K, B, A, W, cA⟩ G D f (unlock ρ2 l)) (fun c x ρ2 => SX ⟨X.K, B, A, W, cA⟩ G c x (unlock ρ2 l)) (forL T.to (runSs U C rb) its (lock ρ1 l)) := by
    simp only at g1
    generalize forL T.to (runSs U C rb) its (lock ρ1 l) = o at g1 ⊢
    cases o <;> exact g1
  clear g1
  refine ⟨fun i m σ H => i ≤ its.length ∧ m = its.length - i ∧ ∃ G' ρ', Sub G1 G' ∧ FR X.K B' A' G' H σ ρ' ∧ Fin (fun f ρ2 => SF ⟨X.K, B, A, W, cA⟩ G D f (unlock ρ2 l)) (fun c x ρ2 => SX ⟨X.K, B, A, W, cA⟩ G c x (unlock ρ2 l)) (forL T.to (runSs U C rb) (its.drop i) ρ'),
    ⟨_, Nat.zero_le _, rfl, G1, _, Sub.rfl, F1, g2⟩, ?_⟩
  rintro i m σ2 H2 ⟨hi', rfl, G2, ρ2, s2, F2, g3⟩
  rcases Nat.lt_or_ge i its.length with hlt | hge
  · refine .inr ⟨wk.go i G2 H2 s2 F2.gh F2.bh hlt, _, fun σ' H' h => h, fun x H3 hy => ?_⟩
    have e1 : its[i]? = some (its[i]'hlt) := List.getElem?_eq_getElem _
    obtain ⟨G3, n3, d3⟩ := wk.yld i G2 H2 x H3 _ s2 F2.gh F2.bh e1 hy
    have F3 := F2.new n3
    rw [List.drop_eq_getElem_cons hlt] at g3
    rw [forL] at g3
    cases q : T.to its[i] ρ2 with
    | none => rw [q] at g3; exact g3.elim
    | some ρ3 =>
      rw [q] at g3
      refine ⟨_, _, G3, ρ2, _, ρ3, F3, d3, q, fun σ' F' _ => ?_⟩
      have sG : Sub G G3 := (s1.tr s2).tr n3.gg
      refine kb B' A' G3 H3 σ' ρ3 _ F' (Fin.imp g3.bind (fun f ρ4 g4 => ?_) fun c x ρ4 z cls d σ5 G5 H5 s5 F5 ex => z cls d σ5 G5 H5 (sG.tr s5) (bk.1 _ _ _ _ F5) ex)
      cases f with
      | nx => exact fun σ5 G5 H5 s5 F5 => ⟨its.length - (i + 1), by omega, by omega, rfl, G5, ρ4, (s2.tr n3.gg).tr s5, F5, g4⟩
      | ct => exact fun σ5 G5 H5 s5 F5 => ⟨its.length - (i + 1), by omega, by omega, rfl, G5, ρ4, (s2.tr n3.gg).tr s5, F5, g4⟩
      | bk => exact fun σ5 G5 H5 s5 F5 => g4 σ5 G5 H5 (sG.tr s5) (bk.1 _ _ _ _ F5)
      | ret r => exact fun v σ5 G5 H5 s5 F5 rv => g4 v σ5 G5 H5 (sG.tr s5) (bk.1 _ _ _ _ F5) (back rv)
  · have he : i = its.length := by omega
    subst he
    rw [List.drop_length] at g3
    exact .inl ⟨wk.stop G2 H2 s2 F2.gh F2.bh, g3 σ2 G2 H2 (s1.tr s2) (bk.1 _ _ _ _ F2)⟩

/-! ### stores -/
theorem store_go {Δ : Cs} {σ : L2.St} {D : Ends} {G0 G H : Hp} {ρ : Rho} {i : Nat} {u : EV} {v : V} (F : FR Δ.K Δ.B Δ.A G H σ ρ) (r : RelEV Δ.K Δ.B G H σ ρ v u) (s : Sub G0 G) (g : FinS Δ G0 D (store i ρ u)) : D.nx (σ.set i (some v)) H := by
  cases u with
  | d x =>
    simp only [store] at g
    obtain ⟨ρ', e, g1⟩ := Fin.of g.bind
    obtain ⟨h1, rfl⟩ := put_some e
    exact g1 _ G H s (F.store (x := .d x) h1 r)
  | x c y =>
    simp only [store] at g
    obtain ⟨ρ', e, g1⟩ := Fin.of g.bind
    obtain ⟨h1, rfl⟩ := put_some e
    exact g1 _ G H s (F.store (x := .x c y) h1 r)
  | o c =>
    simp only [store] at g
    obtain ⟨ρ', e, g1⟩ := Fin.of g.bind
    obtain ⟨h1, rfl⟩ := put_some e
    obtain ⟨a, rfl, k2, k3, k4, k5⟩ := r
    exact g1 _ G H s (F.store (x := .o false false c) h1 ⟨rfl, rfl, a, rfl, k2, k3, k4, fun j p c' _ e => k5 j p c' e⟩)
  | b j =>
    simp only [store] at g
    obtain ⟨x, ρ1, G1, s1, F1, d, g1⟩ := frozen2 (Γ := Δ.at σ) g F r
    obtain ⟨ρ', e, g2⟩ := Fin.of g1.bind
    obtain ⟨h1, rfl⟩ := put_some e
    exact g2 _ G1 H (s.tr s1) (F1.store (x := .d x) h1 d)
theorem s1_asg {i : Nat} {x : Str} {p' : Pos} (hN : X.N.Nodup) (hi : X.N[i]? = some x) (hx : Loc X.env.scope x) (hf : X.fn x = true ∨ X.env.scope.names.lookup x = some .local) (hs : swapsWith e (some (.Name x p')) pos.line X.env = pure false) (ih : SE U C cA X e xe) :
    S1 cA X (.Assign [.Name x p'] e pos) (runS U C (.asg i xe)) := by
  intro W tk
  obtain ⟨t, p, h⟩ := ih W tk
  refine ⟨_, ps_set hN hi hx p hs hf, fun B A G H σ ρ D F g => ?_⟩
  rw [runS] at g
  exact h B A G H σ ρ _ F (Fin.ex g Sub.rfl fun u ρ1 g1 v G1 H1 s1 F1 r1 => store_go (Δ := ⟨X.K, B, A, W, cA⟩) F1 r1 s1 g1)
theorem s1_asgT {tg : Expr} {is : List Nat} (hg : STg X tg (.tp is)) (hs : swapsWithSole [tg] e pos.line X.env = pure false) (hw : swappedStores [tg] e X.env = pure none) (h1 : (assignEach [tg] X.env).map (·.2) = [assign tg X.env]) (ih : SE U C cA X e xe) :
    S1 cA X (.Assign [tg] e pos) (runS U C (.asgT is xe)) := by
  intro W tk
  obtain ⟨t, p, h⟩ := ih W tk
  refine ⟨_, ps_asg p (stg_can hg) hs hw h1, fun B A G H σ ρ D F g => ?_⟩
  rw [runS] at g
  refine h B A G H σ ρ _ F (Fin.ex g Sub.rfl fun u ρ1 g1 v G1 H1 s1 F1 r1 => ?_)
  obtain ⟨x, ρ2, G2, s2, F2, d, g2⟩ := frozen2 (Γ := (Cs.at ⟨X.K, B, A, W, cA⟩ σ)) g1 F1 r1
  split at g2
  · rename_i ρ3 q
    exact ⟨B, A, G2, ρ2, x, ρ3, F2, d, q, fun σ' F' _ => g2 σ' G2 H1 (s1.tr s2) F'⟩
  · exact g2.elim
theorem s1_par2 {i j : Nat} {x y : Str} {a b : Expr} {px py pt : Pos} {kt k2 pt2} (hc : X.calm = true) (hN : X.N.Nodup) (hi : X.N[i]? = some x) (hj : X.N[j]? = some y) (hij : i ≠ j)
    (hx : X.env.scope.names.lookup x = some .local) (hy : X.env.scope.names.lookup y = some .local) (hs1 : starEach [a, b] X.env = (false, eval a X.env) :: starEach [b] X.env) (hs2 : starEach [b] X.env = (false, eval b X.env) :: starEach [] X.env)
    (hw : swappedStores [.Tuple [.Name x px, .Name y py] kt pt] (.Tuple [a, b] k2 pt2) X.env = pure (some [x, y]))
    (hs : swapsWithSole [.Tuple [.Name x px, .Name y py] kt pt] (.Tuple [a, b] k2 pt2) pos.line X.env = pure false) (iha : SE U C cA X a xa) (ihb : SE U C cA X b xb) :
    S1 cA X (.Assign [.Tuple [.Name x px, .Name y py] kt pt] (.Tuple [a, b] k2 pt2) pos) (runS U C (.par2 i j xa xb)) := by
  intro W tk
  obtain ⟨ta, pa, ha⟩ := iha W tk
  obtain ⟨tb, pb, hb⟩ := ihb W tk
  refine ⟨_, ps_par hc hN hi hj hij hx hy (pa_cons pa (pa_cons pb pa_nil hs2) hs1) hw hs, fun B A G H σ ρ D F g => ?_⟩
  rw [runS] at g
  refine ha B A G H σ ρ _ F (Fin.ex g Sub.rfl fun u ρ1 g1 v G1 H1 s1 F1 r1 => ?_)
  obtain ⟨xd, ρ2, G2, s2, F2, d, g2⟩ := frozen2 (Γ := (Cs.at ⟨X.K, B, A, W, cA⟩ σ)) g1 F1 r1
  refine hb B A G2 H1 σ ρ2 _ F2 (Fin.ex g2 (s1.tr s2) fun w ρ3 g3 y' G3 H3 s3 F3 r3 => ?_)
  obtain ⟨yd, ρ4, G4, s4, F4, d', g4⟩ := frozen2 (Γ := (Cs.at ⟨X.K, B, A, W, cA⟩ σ)) g3 F3 r3
  split at g4
  · rename_i ρ6 q
    rw [Option.bind_eq_some_iff] at q
    obtain ⟨ρ5, q1, q2⟩ := q
    obtain ⟨h1, rfl⟩ := put_some q1
    obtain ⟨h2, rfl⟩ := put_some q2
    refine ⟨v, y', rfl, ?_⟩
    have F5 := F4.store (x := .d xd) h1 (show VrAt X.K B G4 H3 σ ρ4 i v (.d xd) from dp_up (s3.tr s4) d)
    exact g4 _ G4 H3 ((s1.tr s2).tr (s3.tr s4)) (F5.store (x := .d yd) h2 d')
  · exact g4.elim
def rSetA (K : Frg) : TSet := fun o i v H Q => rSetL o i v H Q ∨ rSetK K o i v H Q
theorem set_any (hu : X.A.units + 100 < cLine) : PSet X (rSetA X.K) := by
  intro pins s σ H o i v ov iv u Q I ro ri rv h
  rcases h with h | h
  · exact set_list pins s σ H o i v ov iv u Q I ro ri rv h
  · exact set_dctK hu pins s σ H o i v ov iv u Q I ro ri rv h
theorem s1_setIx (hu : X.A.units + 100 < cLine) {i : Nat} {x : Str} {k : Expr} {xk : Ex} {p1 p2 : Pos} (h1 : X.N[i]? = some x) (h2 : Vis X.env.scope x) (h3 : (x == ("__debug__" : Str)) = false) (h4 : (x == ("__classdict__" : Str)) = false)
    (ha : ∀ v, assign (.Subscript (.Name x p1) k p2) X.env v = (do
      let ov ← holding [v] (eval (.Name x p1) X.env)
      let iv ← holding [v, ov] (eval k X.env)
      standAt p2
      holding [v, ov, iv] (setItem ov iv v)
      release [v, ov, iv] []))
    (hs : swapsWithSole [.Subscript (.Name x p1) k p2] e pos.line X.env = pure false) (hw : swappedStores [.Subscript (.Name x p1) k p2] e X.env = pure none)
    (ihk : SE U C cA X k xk) (ih : SE U C cA X e xe) : S1 cA X (.Assign [.Subscript (.Name x p1) k p2] e pos) (runS U C (.setIx i xk xe)) := by
  intro W tk
  obtain ⟨t, pe, h⟩ := ih W tk
  obtain ⟨u, pk, hk⟩ := ihk W tk
  refine ⟨_, ps_asg pe (pg_sub (pe_var h1 h2 h3 h4) pk (set_any hu) ha) hs hw rfl, fun B A G H σ ρ D F g => ?_⟩
  rw [runS] at g
  refine h B A G H σ ρ _ F (Fin.ex g Sub.rfl fun u ρ1 g1 v G1 H1 s1 F1 r1 => ?_)
  obtain ⟨xd, ρ2, G2, s2, F2, d, g2⟩ := frozen2 (Γ := (Cs.at ⟨X.K, B, A, W, cA⟩ σ)) g1 F1 r1
  split at g2
  · rename_i p0 l0 c0 q0
    obtain ⟨a, k1⟩ := slot_at F2 q0
    refine ⟨_, k1, hk B A G2 H1 σ ρ2 _ F2 (Fin.ex g2 (s1.tr s2) fun w ρ3 g3 y' G3 H3 s3 F3 r3 => ?_)⟩
    split at g3
    · rename_i kd
      simp only [setAt] at g3
      split at g3
      · rename_i p xs j q
        split at g3
        · rename_i n hn
          cases r3
          obtain ⟨a', vs, e1, e2, e3⟩ := own_now (G := G) (H := H) (ρ := ρ) F3 q k1
          cases e1
          refine .inl ⟨a, vs, j, n, rfl, rfl, e2, by rw [dps_len e3]; exact hn, ?_⟩
          exact g3 σ G3 _ ((s1.tr s2).tr s3) (F3.grow q k1 (dps_set n e3 (dp_up s3 d)))
        · exact g3.elim
      · rename_i p kvs q
        split at g3
        · rename_i hk
          obtain ⟨a', m1, m2, m3, ob, m4, m5⟩ := F3.own i p _ q
          rw [k1] at m1; cases m1
          refine .inr ⟨G3, a, ob, kvs, _, xd, rfl, F3.gh, m4, m5, r3, dp_up s3 d, hk.1, hk.2, fun ob' d' => ?_⟩
          exact g3 σ G3 _ ((s1.tr s2).tr s3) (F3.growK q k1 ⟨ob', upd_same, d'⟩)
        · exact g3.elim
      · exact g3.elim
    · exact g3.elim
  · exact g2.elim
end
end Ev

set_option Elab.async false
set_option linter.all false
set_option maxRecDepth 100000
/-! raise C(value), the class with the own __init__ of all errors. -/
namespace Ev
open PySem PySem.Spec PyProof.Rows L2

/-- what __init__(self, value) promises -/
def spI (K : Frg) : Sp := fun vs H Q _ => ∃ (a C : Addr) (v : V), vs = [.ref a, v] ∧ OexC K C ∧ PySem.W.findIn K (.ref C) "value" = some none ∧ H a = some (exo a C none) ∧
  ∀ dx, H dx = none → dx ≠ a → Q .non (upd (upd H dx (exd dx [("value", v)])) a (exo a C (some dx)))
/-- its text -/
structure IsInit (st : Stmt) : Prop where
  body : ∃ p1 p2 p3 p4 p5 p6 q1 q2 q3 q4, (p2.endLine == p5.line) = true ∧ defBody st = [.Expr (.Call (.Attribute (.Name "ValueError" p1) "__init__" p2) [.Name "self" p3, .Name "value" p4] [] p5) p6, .Assign [.Attribute (.Name "self" q1) "value" q2] (.Name "value" q3) q4]
  sc : FnScope ["self", "value"] ["self", "value"] (defScope st)
  s1 : (defScope st).names.lookup ("self" : Str) = some .local
  s2 : (defScope st).names.lookup ("value" : Str) = some .local
  s3 : (defScope st).names.lookup ("ValueError" : Str) = some .globalImplicit
theorem arm_call {o : Expr} {name : Str} {apos pos : Pos} {args : List Expr} {ks : List Keyword} {env : Env} : eval (.Call (.Attribute o name apos) args ks pos) env = (do
    let ov ← attributeBase o name env (eval o env)
    standAt apos.atName
    methodCall o name apos pos env ov (args.length + ks.length) (backTo pos (starEach args env)) (backToKw pos (keywordEach ks env))) := rfl
section
variable {P : Program} {w : World} {K : Frg} {mg : Str → Option Value} {base : Heap} {fI : Addr} {fd : FuncData} {st : Stmt} {q : Str}
theorem init_ok {k : Nat} (F : Fun K "__init__" q st fI fd) (t : IsInit st) (m0 : mg "ValueError" = none) (vV : PySem.W.findCls K (.type "ValueError") (.type "type") "__init__" = some (.val (.builtin "ValueError.__init__"))) :
    FnOk P w K mg base CX0 (k + 1) fI fd ["self", "value"] (spI K) := by
  obtain ⟨p1, p2, p3, p4, p5, p6, q1, q2, q3, q4, hline, hb⟩ := t.body
  refine F.ok t.sc (fun vs H Q E h => ?_) (fun cdv A outer s H vs Q E hr h => ?_)
  · obtain ⟨a, C, v, rfl, _⟩ := h; rfl
  obtain ⟨a, C, v, rfl, T, hno, ha, hq⟩ := h
  rw [hb]
  have v0 : PE (cxOf CX0 P w K mg base ["self", "value"] q (defScope st) fI cdv A outer s H E).nox (.Name "self" p3) (tVar 0) := pe_var rfl (.inl t.s1) (by decide) (by decide)
  have v1 : PE (cxOf CX0 P w K mg base ["self", "value"] q (defScope st) fI cdv A outer s H E).nox (.Name "value" p4) (tVar 1) := pe_var rfl (.inl t.s2) (by decide) (by decide)
  have v0' : PE (cxOf CX0 P w K mg base ["self", "value"] q (defScope st) fI cdv A outer s H E).nox (.Name "self" q1) (tVar 0) := pe_var rfl (.inl t.s1) (by decide) (by decide)
  have v1' : PE (cxOf CX0 P w K mg base ["self", "value"] q (defScope st) fI cdv A outer s H E).nox (.Name "value" q3) (tVar 1) := pe_var rfl (.inl t.s2) (by decide) (by decide)
  refine ⟨_, pss_cons (ps_expr (pe_veinit (pl := (do return (← importBound (.Name "ValueError" p1) (cxOf CX0 P w K mg base ["self", "value"] q (defScope st) fI cdv A outer s H E).nox.env).getD true)) t.s3 m0 vV (pa_cons v0 (pa_cons v1 pa_nil)) ?hc)) (pss_one (ps_ost v0' v1')), ?_⟩
  case hc =>
    rw [arm_call]
    have e : ∀ (few : Bool) (o : Expr) (env : Env), methodCallPos few o env p2 p5 = pure p5 := fun few o env => by
      unfold methodCallPos
      simp [hline]
    unfold methodCall
    simp only [e]
    rfl
  refine ⟨_, rfl, _, rfl, a, C, [v], rfl, by simp, T, ha, _, rfl, _, rfl, a, C, rfl, T, hno, .inl ⟨ha, fun dx h1 h2 => ?_⟩⟩
  exact hq dx h1 h2
end
theorem xd_heap {H : Hp} {a dx : Addr} {f : HO} {g g' : HO} {o : HO} (h1 : H a = none) (h2 : dx ≠ a) : upd (del (upd (upd (upd H a f) dx g) a g') a) dx o = upd H dx o := by
  funext b
  by_cases h : b = dx
  · subst h; rw [upd_same, upd_same]
  · rw [upd_ne h, upd_ne h]
    by_cases h' : b = a
    · subst h'; rw [del_same, h1]
    · rw [del_ne h', upd_ne h', upd_ne h, upd_ne h']
section
variable {U : Consts} {C : Calls} {cA : Nat → Addr} {X : Cx} {e : Expr} {xe : Ex} {p pos rpos : Pos} {x : Str} {c : Nat} {fI : Addr} {fd : FuncData}
theorem s1_raise (hc : X.calm = true) (hcx : exA X.K c (cA c)) (T : OexC X.K (cA c)) (iC : PySem.W.findIn X.K (.ref (cA c)) "__init__" = some (some (.ref fI))) (tI : PySem.W.typeIn X.K (.ref fI) = some (.type "function")) (hno : PySem.W.findIn X.K (.ref (cA c)) "value" = some none)
    (F1 : FnOk X.prog X.w X.K X.mg X.base CX0 1 fI fd ["self", "value"] (spI X.K)) (hr : Room 2 X.A) (hb : Binds X.K fd ["self", "value"] []) (hg : Gl X x) (hm : X.mg x = some (.ref (cA c))) (hdb : (x == ("__debug__" : Str)) = false)
    (hs : starEach [e] X.env = (false, eval e X.env) :: starEach [] X.env) (ih : SE U C cA X e xe) : S1 cA X (.Raise (some (.Call (.Name x p) [e] [] pos)) none rpos) (runS U C (.raise c xe)) := by
  intro W tk
  obtain ⟨t, pe, h⟩ := ih W tk
  have mk := pmk_oex (p := p) (pos := pos) T iC tI F1 hr hb .nil (fun _ _ _ _ _ _ _ z => z.elim) hg hm (pa_cons pe pa_nil hs) hdb hs rfl
  refine ⟨_, ps_raise hc tk mk, fun B A G H σ ρ D F g => ?_⟩
  rw [runS] at g
  refine h B A G H σ ρ _ F (Fin.ex g Sub.rfl fun u ρ1 g1 v G1 H1 s1 F1 r1 => ?_)
  obtain ⟨xd, ρ2, G2, s2, F2, d, g2⟩ := frozen2 (Γ := (Cs.at ⟨X.K, B, A, W, cA⟩ σ)) g1 F1 r1
  refine ⟨by simp, fun a ha => ⟨a, cA c, v, rfl, T, hno, upd_same, fun dx h1 h2 => ?_⟩⟩
  have hdx : H1 dx = none := by rw [upd_ne h2] at h1; exact h1
  refine ⟨rfl, dx, _, upd_same, by rw [upd_ne h2, upd_same], hdx, ?_⟩
  rw [xd_heap ha h2]
  have n := New.both (o := .xd [("value", v)]) F2.gh hdx
  exact g2 _ _ σ _ _ ((s1.tr s2).tr n.gg) (F2.new n) ⟨rfl, hcx, dx, v, rfl, upd_same, dp_up n.gg d⟩
end
end Ev

set_option Elab.async false
set_option linter.all false
set_option maxRecDepth 100000
/-! An object of errors is looked after from now on. -/
namespace Ev
open PySem PySem.Spec PyProof.Rows L2

section
variable {X : Cx} {pins : List (Addr × Obj)} {σ : L2.St} {H : Hp} {s : Shared} {a : Addr} {o : HO}
theorem hok_new {P : Program} {w : World} {h : Heap} (x : HOk P w H h) (hn : H a = none) (new : ObjOk P w (upd H a o) h a o) : HOk P w (upd H a o) h := fun b u e => by
  by_cases hb : b = a
  · subst hb; rw [upd_same] at e; cases e; exact new
  · rw [upd_ne hb] at e
    exact (x b u e).stay (fun _ _ _ q => q) (fun c q => Sub.add hn _ _ q) fun c xs q => Sub.add hn _ _ q
/-- an object that is there, younger than the entry, is tracked from now on -/
theorem Inv_track (I : Inv X pins σ H s) (n0 : X.s_0.heap.get? a = none) (hn : H a = none) (nL : a ≠ X.env.locals) (nc : ∀ x c, X.env.cells.lookup x = some c → c ≠ a) (np : ∀ p ∈ X.pn ++ pins, p.1 ≠ a)
    (new : ObjOk X.prog X.w (upd H a o) s.heap a o) : Inv X pins σ (upd H a o) s := by
  have u := I.base
  have ne0 : ∀ b p, X.s_0.heap.get? b = some p → b ≠ a := fun b p e z => by rw [z, n0] at e; cases e
  refine ⟨I.ok, I.os, I.bare, ⟨u.keep, u.slot, fun b p e n x => ?_, u.there, fun b xs e => ?_, fun b p v e => ?_, fun b ps e => ?_⟩, I.loc, I.cell, ?_, fun x c e => ?_, fun p hp => ?_, hok_new I.hok hn new, I.len⟩
  · rw [upd_ne (ne0 b p e)]; exact u.free b p e n x
  · exact Sub.add hn _ _ (u.tups b xs e)
  · exact Sub.add hn _ _ (u.frzs b p v e)
  · obtain ⟨m, q⟩ := u.tbls b ps e
    exact ⟨m, Sub.add hn _ _ q⟩
  · rw [upd_ne (Ne.symm nL)]; exact I.free
  · rw [upd_ne (nc x c e)]; exact I.freeC x c e
  · obtain ⟨k1, k2, k3⟩ := I.pin p hp
    exact ⟨k1, by rw [upd_ne (np p hp)]; exact k2, k3⟩
end
end Ev

set_option Elab.async false
set_option linter.all false
set_option maxRecDepth 100000
/-! try: .. except C as n: y = n -/
namespace Ev
open PySem PySem.Spec PyProof.Rows L2

def wCatch (K : Frg) (c : Value) (i j : Nat) (Wout : WX) (D : Ends) : WX := fun cls d σ H =>
  ∃ b, PySem.W.exmOne K cls c = some b ∧ (b = true → ∀ a, H a = none → D.nx (((σ.set i (some (.ref a))).set j (some (.ref a))).set i none) (upd H a (ExY cls d a))) ∧ (b = false → Wout cls d σ H)
section
variable {X : Cx} {x n y : Str} {c : Value} {i j : Nat} {body : List Stmt} {np ep yp asp pos pos' : Pos} {tb : WX → TS} {Wout : WX}
theorem ps_catch (hs : X.stack = X.env :: X.outer) (hex : X.ex = []) (hf : X.env.frame = some X.env.locals) (hN : X.N.Nodup) (hi : X.N[i]? = some n) (hj : X.N[j]? = some y) (hln : X.env.kindOf n = some .local) (hly : X.env.kindOf y = some .local)
    (hdn : (n == ("__debug__" : Str)) = false) (hcn : (n == ("__classdict__" : Str)) = false) (hc : Names X x c) (tk : Takes X Wout)
    (hb : ∀ (W : WX) (pn : List (Addr × Obj)) (xe : Value → Shared → Prop), Takes (X.tr pn xe) W → PassesOwn (model X.prog X.w) X.A X.env xe → PSs (X.tr pn xe) body (tb W)) :
    PS X (.Try body [.ExceptHandler (some (.Name x np)) (some n) [.Assign [.Name y yp] (.Name n ep) asp] pos'] [] [] pos) (fun D σ H => tb (wCatch X.K c i j Wout D) D σ H) := by
  refine ⟨fun pins s σ H D I h => ?_⟩
  have frames : X.A.frames = some (X.env :: X.outer) := by rw [I.ok.frames, hs]
  refine wpAny_Try_except ?_
  have toBody := I.toTry (fun e s₁ => wpAny (model X.prog X.w) X.A (noteFrame e X.env) (fun _ s₂ => wpAny (model X.prog X.w) X.A (setFlight e none) (fun _ s₃ =>
    wpAny (model X.prog X.w) X.A (handleBy e X.env [.ExceptHandler (some (.Name x np)) (some n) [.Assign [.Name y yp] (.Name n ep) asp] pos']) (SP X pins D) X.xe s₃) X.xe s₂) X.xe s₁)
  refine wpAny_mono ((hb (wCatch X.K c i j Wout D) _ _ (fun u s' air => ?air) PassesOwn.looking).run [] s σ H D toBody h) (fun f s1 done => ?_) fun _ _ z => z
  case air =>
    obtain ⟨a, B, sI, pins', σ', H', cls, d, rfl, J', nb, up, sky, na, os, ag, b, test, yes, no⟩ := air
    have J : Inv X pins σ' H' sI := J'.ofTry I.ok
    rw [hs] at sky
    show wpAny (model X.prog X.w) X.A (noteFrame (.ref a) X.env) _ _ _
    refine Sky.land Zc.steady frames hf sky fun h3 fl3 up3 => ?_
    have J3 : Inv X pins σ' H' { s' with heap := h3 } := J.landed nb fl3.1 (up.trans up3) os ag
    obtain ⟨o3, f3, at3, z3, d3⟩ := fl3.there
    have outF : a ∉ frs (X.env :: X.outer) := fun m => by
      obtain ⟨_, o', e', nof⟩ := fl3.2.2.1.mem m
      rw [at3] at e'; cases e'
      exact nof _ d3
    have notL : a ≠ X.env.locals := fun e => outF (List.mem_filterMap.mpr ⟨X.env, List.mem_cons_self, by rw [hf, e]⟩)
    have notF : a ∉ X.fs := fun m => by
      obtain ⟨e, he, q⟩ := List.mem_filterMap.mp m
      exact outF (List.mem_filterMap.mpr ⟨e, List.mem_cons_of_mem _ he, q⟩)
    have notI : sI.heap.get? a = none := by
      cases q : sI.heap.get? a with
      | none => rfl
      | some o =>
        have := nb a o q (by rw [hs]; exact outF)
        rw [fl3.2.1] at this; cases this
    have not0 : X.s_0.heap.get? a = none := by
      cases q : X.s_0.heap.get? a with
      | none => rfl
      | some o =>
        obtain ⟨o', e'⟩ := J.base.there a o q (by rw [hex]; exact fun z => (nomatch z))
        rw [notI] at e'; cases e'
    have notP : ∀ p ∈ X.pn ++ pins, p.1 ≠ a := fun p hp e => by
      have := (J.pin p hp).1
      rw [e, notI] at this; cases this
    have S3 := J3.suite at3 d3 na notL notF
    refine wpAny_handleBy_cons (codeAny_handlers_test ?_) (by intro q; cases q)
    have isCls : PySem.W.Looks (model X.prog X.w) h3 (typeOf (.ref a)) cls := fun A Q E s k q => wpAny_typeOf_ref (k _ _ at3) (by rw [z3.1]; exact q)
    have isExc := PySem.W.exm_one (M := model X.prog X.w) J3.kIn isCls test
    have asked : ∀ {Q : Value → Shared → Prop} {E : Value → Shared → Prop}, Q c { s' with heap := h3 } → wpAny (model X.prog X.w) (X.A.mark (some (.ref a))) (eval (.Name x np) X.env) Q E { s' with heap := h3 } := fun {Q E} q => by
      obtain ⟨g, db, k | ⟨k, v, nn⟩⟩ := hc
      · exact ld_glob (X := X.suite a ((a, o3) :: (X.pn ++ pins))) S3 g k q db
      · exact ld_blt (X := X.suite a ((a, o3) :: (X.pn ++ pins))) S3 g k v q nn db
    refine asked (isExc.here ?_)
    cases b with
    | true =>
      refine codeAny_handlers_suite_as ?_
      refine HandSPX.lands_againZ fl3 fun h4 fl4 up4 => ?_
      have J4 : Inv X pins σ' H' { s' with heap := h4 } := J.landed nb fl4.1 ((up.trans up3).trans up4) os ag
      obtain ⟨o4, f4, at4, z4, d4⟩ := fl4.there
      have notC : ∀ z c', X.env.cells.lookup z = some c' → c' ≠ a := fun z c' e q => by
        subst q
        obtain ⟨v, hv⟩ := J4.cell z _ e
        obtain ⟨o, e1, e2⟩ := hv
        rw [at4] at e1; cases e1
        rw [d4] at e2; cases e2
      have T4 := Inv_track J4 not0 na notL notC notP (exY_ok at4 z4 d4)
      have S4 : Inv (X.suite a (X.pn ++ pins)) [] σ' (upd H' a (ExY cls d a)) { s' with heap := h4 } :=
        ⟨T4.ok.suite _ _, T4.os, T4.bare, T4.base, T4.loc, T4.cell, T4.free, T4.freeC, fun p hp => T4.pin p (by rw [List.append_nil] at hp; exact hp), T4.hok, T4.len⟩
      refine store_ok (X := X.suite a (X.pn ++ pins)) (v := .ref a) S4 hN hi (.inl hln) rfl (fun s5 S5 => ?_) (.inr hln)
      have stm : PSs (X.suite a (X.pn ++ pins)) [.Assign [.Name y yp] (.Name n ep) asp] (tAsg (tVar i) (gName j)) := pss_one (ps_set hN hj (.inl hly) (pe_var hi (.inl hln) hdn hcn) rfl (.inr hly))
      have fill : (σ'.set i (some (.ref a)))[i]? = some (some (V.ref a)) := by
        have : i < σ'.length := by rw [J4.len]; exact (List.getElem?_eq_some_iff.mp hi).1
        rw [List.getElem?_set_self this]
      refine wpAny_mono (stm.run [] s5 _ _ { nx := fun σ7 H7 => D.nx (σ7.set i none) H7, rt := fun _ _ => False } S5 ⟨_, fill, yes rfl a na⟩) (fun f s6 end6 => ?_) fun _ _ z => z.elim
      cases f with
      | next =>
        obtain ⟨σ6, H6, S6, q6⟩ := end6
        have J6 : Inv X pins σ6 H6 s6 := ⟨I.ok, S6.os, S6.bare, S6.base, S6.loc, S6.cell, S6.free, S6.freeC, fun p hp => S6.pin p (List.mem_append_left _ hp), S6.hok, S6.len⟩
        exact gone_ok J6 hN hi hln fun s7 J7 => ⟨_, _, J7, q6⟩
      | brk => obtain ⟨_, _, _, q⟩ := end6; exact q.elim
      | cont => obtain ⟨_, _, _, q⟩ := end6; exact q.elim
      | ret u => obtain ⟨_, _, _, _, _, q⟩ := end6; exact q.elim
    | false =>
      show wpAny _ X.A (handleBy (.ref a) X.env []) _ _ _
      refine wpAny_handleBy_nil ?_
      obtain ⟨g1, g2, g3, oe, vs, tr, otr, ts, e1, e2, e3, e4, e5⟩ := id fl3
      unfold PySem.passOn
      refine wpAny_bind (wpAny_field e1 e3 e4 ?_)
      rw [if_neg (show ¬ ((Value.ref tr == Value.none) = true) from by simp)]
      have last : wpAny (model X.prog X.w) X.A (setFlight (.ref a) X.env.frame) (fun _ s4 => wpAny (model X.prog X.w) X.A (throw (.ref a) : Sem Flow) (SP X pins D) X.xe s4) X.xe { s' with heap := h3 } := by
        rw [hf]
        refine HandSPX.setFlight_upZ fl3 fun h4 held up4 => wpAny_throw (tk _ _ ?_)
        exact ⟨a, B, sI, pins, σ', H', cls, d, rfl, J, nb, (up.trans up3).trans up4, .inr (.inr (by rw [hs]; exact held)), na, os, ag, no rfl⟩
      first
        | exact wpAny_bind (wpAny_pure (wpAny_bind last))
        | exact wpAny_bind last
  · cases f with
    | next => obtain ⟨σ', H', J', q⟩ := done; exact wpAny_execs_nil ⟨σ', H', J'.ofTry I.ok, q⟩
    | brk => obtain ⟨σ', H', J', q⟩ := done; exact ⟨σ', H', J'.ofTry I.ok, q⟩
    | cont => obtain ⟨σ', H', J', q⟩ := done; exact ⟨σ', H', J'.ofTry I.ok, q⟩
    | ret u => obtain ⟨v, σ', H', J', r, q⟩ := done; exact ⟨v, σ', H', J'.ofTry I.ok, r, q⟩
end
end Ev

set_option Elab.async false
set_option linter.all false
set_option maxRecDepth 100000
/-! Errors: their classes; isinstance and .value of one; try. -/
namespace Ev
open PySem PySem.Spec PyProof.Rows L2

def tyNames : List String := ["NoneType", "bool", "int", "str", "list", "tuple", "dict"]
/-- what a class of errors is -/
structure ErrC (K : Frg) (C : Addr) : Prop where
  oex : OexC K C
  val : PySem.W.findIn K (.ref C) "value" = some none
  exc : ExcC K C
  ve : PySem.W.kitOne K (.ref C) (.type "ValueError") = some true
  dt : ∀ t ∈ tyNames, PySem.W.kitOne K (.type t) (.ref C) = some false
def cAof (K : Frg) (c : Nat) : Addr := match excNames[c]? with
  | some nm => (match PySem.W.nsIn K mainGlobals nm with
    | some (some (.ref C)) => C
    | _ => 0)
  | none => 0
theorem cA_of {K : Frg} {c : Nat} {C : Addr} (h : exA K c C) : C = cAof K c := by
  obtain ⟨nm, h1, h2⟩ := h
  unfold cAof
  rw [h1]
  simp only [h2]
/-- a class of errors, in a frame -/
structure ErrAt (P : Program) (w : World) (K : Frg) (mg : Str → Option Value) (base : Heap) (c : Nat) : Prop where
  nm : ∃ x, excNames[c]? = some x ∧ mg x = some (.ref (cAof K c)) ∧ exA K c (cAof K c)
  cls : ErrC K (cAof K c)
  ini : ∃ (fI : Addr) (fd : FuncData), PySem.W.findIn K (.ref (cAof K c)) "__init__" = some (some (.ref fI)) ∧ PySem.W.typeIn K (.ref fI) = some (.type "function") ∧ FnOk P w K mg base CX0 1 fI fd ["self", "value"] (spI K) ∧ Binds K fd ["self", "value"] []
/-- the classes of errors of a module: which are there, which lies under which -/
structure ErrsIn (K : Frg) (es : List Nat) : Prop where
  all : ∀ c C, exA K c C → c ∈ es
  cls : ∀ c ∈ es, ErrC K (cAof K c)
  sub : ∀ c ∈ es, ∀ c' ∈ es, PySem.W.exmOne K (.ref (cAof K c')) (.ref (cAof K c)) = some (excSub c' c) ∧ PySem.W.kitOne K (.ref (cAof K c')) (.ref (cAof K c)) = some (excSub c' c)

theorem ty_dp {K : Frg} {H : Hp} {v : V} {d : PyData} (h : Dp K H v d) : ∃ t ∈ tyNames, TyX K H v (.type t) := by
  cases h with
  | non => exact ⟨_, by decide, .base .non⟩
  | bl b => exact ⟨_, by decide, .base (.bl b)⟩
  | int i => exact ⟨_, by decide, .base (.int i)⟩
  | str x => exact ⟨_, by decide, .base (.str x)⟩
  | lst h1 h2 =>
    refine ⟨"list", by decide, ?_⟩
    rcases h1 with (h1 | ⟨o, h1⟩) | ⟨o, its, n, h1, h3, _⟩
    · exact .base (.lst h1)
    · exact .base (.frz h1)
    · exact .kList h1 h3
  | tup h1 h2 =>
    refine ⟨"tuple", by decide, ?_⟩
    rcases h1 with (h1 | ⟨o, h1⟩) | ⟨o, its, n, h1, h3, _⟩
    · exact .base (.tup h1)
    · exact .fTuple h1
    · exact .kTuple h1 h3
  | dic h1 => exact ⟨"dict", by decide, .base (.dK h1)⟩
theorem ty_ve {t : String} (h : t ∈ tyNames) {K : Frg} : PySem.W.kitOne K (.type t) (.type "ValueError") = some false := by
  simp only [tyNames, List.mem_cons, List.not_mem_nil, or_false] at h
  rcases h with rfl | rfl | rfl | rfl | rfl | rfl | rfl <;> exact kit_ty (r := false) (by decide +kernel)
section
variable {U : Consts} {C : Calls} {cA : Nat → Addr} {X : Cx} {e : Expr} {xa : Ex} {p p' pos : Pos} {x : Str} {c : Nat}
theorem callR_or {f : Value} {r1 r2 : List V → Hp → VK → Prop} (h1 : CallR X f r1) (h2 : CallR X f r2) : CallR X f (fun xs H Q => r1 xs H Q ∨ r2 xs H Q) := fun pins s σ H xs us Q I r h => by
  rcases h with h | h
  · exact h1 pins s σ H xs us Q I r h
  · exact h2 pins s σ H xs us Q I r h
/-- an error that is looked after, at a -/
theorem inst_at {pins : List (Addr × Obj)} {σ : L2.St} {H : Hp} {s : Shared} {a C d : Addr} {fs : List (Str × V)} (I : Inv X pins σ H s) (ha : H a = some (ExY (.ref C) (some d) a)) (hd : H d = some (.xd fs)) :
    ∃ (oe od : Obj) (mA : Str → Option Value), PySem.W.InstAt s.heap a oe C (some od) ∧ (∀ n, PySem.W.lookIn n od = some (mA n)) ∧ ∀ n, RelO (fs.lookup n) (mA n) := by
  have h1 : ObjOk X.prog X.w H s.heap a (ExY (.ref C) (some d) a) := I.hok a _ ha
  obtain ⟨⟨oe, vs, e1, z, f⟩, _, _⟩ := h1
  have h2 : ObjOk X.prog X.w H s.heap d (.xd fs) := I.hok d _ hd
  obtain ⟨mA, hns, hr⟩ := h2
  obtain ⟨od, ho, hl⟩ := lookIn_ns hns
  exact ⟨oe, od, mA, ⟨e1, z.1, by unfold PySem.W.notCls; rw [f] <;> rfl, by rw [z.2]; exact ho⟩, hl, hr⟩
def rIsX (K : Frg) : List V → Hp → VK → Prop := fun xs H Q => ∃ (a D d : Addr) (fs : List (Str × V)) (c : V) (cv : Value) (b : Bool), xs = [.ref a, c] ∧ H a = some (ExY (.ref D) (some d) a) ∧ H d = some (.xd fs) ∧ ExcC K D ∧ ClsV c cv ∧ PySem.W.kitOne K (.ref D) cv = some b ∧ Q (.bl b) H
theorem call_isX : CallR X (.builtin "isinstance") (rIsX X.K) := by
  intro pins s σ H xs us Q I r h
  obtain ⟨a, D, d, fs, c, cv, b, rfl, ha, hd, T, hc, e, q⟩ := h
  obtain ⟨u1, u2, rfl, r1, r2⟩ := vals2 r
  have e2 := hc.eq r2
  subst e2
  obtain rfl : u1 = Value.ref a := r1
  obtain ⟨oe, od, mA, J, _, _⟩ := inst_at I ha hd
  exact PySem.W.kia_one (PySem.W.kitx_exc (by obtain ⟨cd, hc, _⟩ := PySem.W.any_some T.hd; rw [hc]; rfl) T.hg T.hk T.hs T.ha T.hn T.ht T.hm) I.kIn J e (fun z => nomatch z) fun tk => ⟨.bl b, H, I.tok tk, rfl, q⟩
theorem se_isx {q : Pos} {D : Addr} (hm : X.mg "isinstance" = none) (hg : Gl X "isinstance") (hg2 : Gl X x) (hm2 : X.mg x = some (.ref D)) (hdb : (x == ("__debug__" : Str)) = false)
    (hs : starEach [e, .Name x q] X.env = (false, eval e X.env) :: starEach [.Name x q] X.env) (hcl : ErrC X.K D)
    (sub : ∀ c' C', exA X.K c' C' → ErrC X.K C' ∧ PySem.W.kitOne X.K (.ref C') (.ref D) = some (excSub c' c)) (ih : SE U C cA X e xa) : SE U C cA X (.Call (.Name "isinstance" p) [e, .Name x q] [] pos) (.isx (some c) xa) := by
  intro W tk
  obtain ⟨t, pa, h⟩ := ih W tk
  have pT : PE X (.Name x q) (tC (.ref D)) := pe_glob (v := .ref D) hg2 hm2 rfl hdb
  refine ⟨_, pe_callB (callR_or call_isX call_isi) hg hm boot_isi (pa_cons pa (pa_cons pT pa_nil) hs) (by decide) (by decide) hs rfl, fun B A G H σ ρ Q F g => h B A G H σ ρ _ F (g.then fun u ρ1 g1 v G1 H1 s1 F1 r1 => ?_)⟩
  split at g1
  · rename_i c' y
    obtain ⟨a, d, C', w, rfl, k1, k2, k3, k4⟩ := r1
    obtain ⟨m1, m2⟩ := sub c' C' k1
    exact .inl ⟨a, C', d, _, .ref D, _, _, rfl, F1.gh _ _ k2, F1.gh _ _ k3, m1.exc, .own D, m2, g1 _ G1 H1 s1 F1 (.bl _)⟩
  · obtain ⟨t', h1, h2⟩ := ty_dp (dp_up F1.gh (show Dp X.K G1 v _ from r1))
    exact .inr ⟨v, .ref D, _, _, _, rfl, .own D, h2, hcl.dt t' h1, g1 _ G1 H1 s1 F1 (.bl _)⟩
  · exact g1.elim
theorem boot_ve : bootBuiltins "ValueError" = some (.type "ValueError") := by decide +kernel
theorem se_isv {q : Pos} (hm : X.mg "isinstance" = none) (hg : Gl X "isinstance") (hg2 : Gl X "ValueError") (hm2 : X.mg "ValueError" = none)
    (hs : starEach [e, .Name "ValueError" q] X.env = (false, eval e X.env) :: starEach [.Name "ValueError" q] X.env)
    (sub : ∀ c' C', exA X.K c' C' → ErrC X.K C') (ih : SE U C cA X e xa) : SE U C cA X (.Call (.Name "isinstance" p) [e, .Name "ValueError" q] [] pos) (.isx none xa) := by
  intro W tk
  obtain ⟨t, pa, h⟩ := ih W tk
  have pT : PE X (.Name "ValueError" q) (tC (.ty "ValueError")) := pe_bltn hg2 hm2 boot_ve rfl (by decide) (by decide)
  refine ⟨_, pe_callB (callR_or call_isX call_isi) hg hm boot_isi (pa_cons pa (pa_cons pT pa_nil) hs) (by decide) (by decide) hs rfl, fun B A G H σ ρ Q F g => h B A G H σ ρ _ F (g.then fun u ρ1 g1 v G1 H1 s1 F1 r1 => ?_)⟩
  split at g1
  · rename_i c' y
    obtain ⟨a, d, C', w, rfl, k1, k2, k3, k4⟩ := r1
    have m1 := sub c' C' k1
    exact .inl ⟨a, C', d, _, .ty "ValueError", _, _, rfl, F1.gh _ _ k2, F1.gh _ _ k3, m1.exc, .ty _, m1.ve, g1 _ G1 H1 s1 F1 (.bl _)⟩
  · obtain ⟨t', h1, h2⟩ := ty_dp (dp_up F1.gh (show Dp X.K G1 v _ from r1))
    exact .inr ⟨v, .ty "ValueError", _, _, _, rfl, .ty _, h2, ty_ve h1, g1 _ G1 H1 s1 F1 (.bl _)⟩
  · exact g1.elim
/-- e.value -/
def tXv (K : Frg) (te : TE) : TE := fun σ H Q => te σ H fun x H1 => ∃ (a D d : Addr) (u : V), x = .ref a ∧ H1 a = some (ExY (.ref D) (some d) a) ∧ H1 d = some (.xd [("value", u)]) ∧ ErrC K D ∧ Q u H1
theorem pe_xv {te : TE} (he : PE X e te) (hb : attributeBase e "value" X.env (eval e X.env) = eval e X.env) : PE X (.Attribute e "value" pos) (tXv X.K te) := by
  refine ⟨fun pins s σ H Q I h => ?_⟩
  refine attr_of hb (thn (he.run pins s σ H _ I h) fun u s1 hh => ?_)
  obtain ⟨x, H1, I1, rx, a, D, d, v, rfl, ha, hd, T, q⟩ := hh
  obtain rfl : u = Value.ref a := rx
  obtain ⟨oe, od, mA, J, hl, hr⟩ := inst_at I1 ha hd
  have l : ([(("value" : Str), v)] : List (Str × V)).lookup ("value" : Str) = some v := rfl
  obtain ⟨u, hu, ru⟩ := RelO.some_of (v := v) (o := mA "value") (by rw [← l]; exact hr "value")
  exact HandSPX.exc_get I1.kIn J T.exc.hg T.exc.hk T.exc.hs (PySem.W.findObj_own T.exc.hd T.val rfl (by rw [hl, hu])) (handed_of ru) ⟨v, H1, I1.tok _, ru, q⟩
theorem se_xval (hb : attributeBase e "value" X.env (eval e X.env) = eval e X.env) (sub : ∀ c' C', exA X.K c' C' → ErrC X.K C') (ih : SE U C cA X e xa) : SE U C cA X (.Attribute e "value" pos) (.xval xa) := by
  intro W tk
  obtain ⟨t, pa, h⟩ := ih W tk
  refine ⟨_, pe_xv pa hb, fun B A G H σ ρ Q F g => h B A G H σ ρ _ F (g.then fun u ρ1 g1 v G1 H1 s1 F1 r1 => ?_)⟩
  split at g1
  · rename_i c' y
    obtain ⟨a, d, C', w, rfl, k1, k2, k3, k4⟩ := r1
    exact ⟨a, C', d, w, rfl, F1.gh _ _ k2, F1.gh _ _ k3, sub c' C' k1, g1 _ G1 H1 s1 F1 k4⟩
  · exact g1.elim
/-- e is None, e is not None -/
theorem dp_non {K : Frg} {G : Hp} {v : V} {y : PyData} (h : Dp K G v y) : decide (v = V.non) = isNon y := by
  cases h <;> rfl
theorem isN_at {neg : Bool} {W : WX} {B : Hp} {A : Fix} {G G1 H1 : Hp} {σ : L2.St} {Q : V → Hp → Prop} {u : EV} {v : V} {ρ1 : Rho} (s1 : Sub G G1) (F1 : FR X.K B A G1 H1 σ ρ1)
    (g : FinV ⟨X.K, B, A, σ, W, cA⟩ G Q (match u with
    | .x _ _ => .ok (.d (.bool neg)) ρ1
    | .d x => .ok (.d (.bool (if isNon x then !neg else neg))) ρ1
    | .b i => (match get ρ1 i with
      | .o _ _ _ => .ok (.d (.bool neg)) ρ1
      | .d x => .ok (.d (.bool (if isNon x then !neg else neg))) ρ1
      | _ => .stuck)
    | .o _ => .ok (.d (.bool neg)) ρ1)) (r1 : RelEV X.K B G1 H1 σ ρ1 v u) : Q (.bl (if neg then !decide (v = V.non) else decide (v = V.non))) H1 := by
  cases u with
  | x c y =>
    obtain ⟨a, d, C', w, rfl, _⟩ := r1
    have := g (.bl neg) G1 H1 s1 F1 (.bl _)
    cases neg <;> simpa using this
  | d y =>
    have := g _ G1 H1 s1 F1 (.bl _)
    rw [dp_non r1]
    cases neg <;> cases h : isNon y <;> simpa [h] using this
  | o c =>
    obtain ⟨a, rfl, _⟩ := r1
    have := g (.bl neg) G1 H1 s1 F1 (.bl _)
    cases neg <;> simpa using this
  | b i =>
    obtain ⟨k1, p, l, c, k2⟩ := r1
    simp only [k2] at g
    have fin := g (.bl neg) G1 H1 s1 F1 (.bl _)
    have : ∃ a, v = .ref a := by
      cases l with
      | false => obtain ⟨a, m1, _⟩ := F1.own i p c k2; rw [k1] at m1; cases m1; exact ⟨a, rfl⟩
      | true => obtain ⟨a, _, _, m1, _⟩ := F1.lck i p c k2; rw [k1] at m1; cases m1; exact ⟨a, rfl⟩
    obtain ⟨a, rfl⟩ := this
    cases neg <;> simpa using fin
theorem se_isN {j : Nat} : ∀ {neg : Bool}, SE U C cA X e xa → SE U C cA X (.Compare e [if neg then .IsNot else .Is] [.Constant .none j p'] pos) (.isN neg xa) ∧ ST U C cA X (.Compare e [if neg then .IsNot else .Is] [.Constant .none j p'] pos) (.isN neg xa)
  | false, ih => by
    constructor
    · intro W tk
      obtain ⟨t, pa, h⟩ := ih W tk
      exact ⟨_, pe_cmp (pc_isN pa), fun B A G H σ ρ Q F g => h B A G H σ ρ _ F (g.then fun u ρ1 g1 v G1 H1 s1 F1 r1 => isN_at (neg := false) s1 F1 g1 r1)⟩
    · intro W tk
      obtain ⟨t, pa, h⟩ := ih W tk
      refine ⟨_, pt_cmp (pc_isN pa), fun B A G H σ ρ Q F g => h B A G H σ ρ _ F ((show FinV ⟨X.K, B, A, σ, W, cA⟩ G (fun x H1 => ∃ c, x = .bl c ∧ Q c H1) (evE U C (.isN false xa) ρ) from asB_v g).then fun u ρ1 g1 v G1 H1 s1 F1 r1 => ?_)⟩
      exact isN_at (neg := false) s1 F1 g1 r1
  | true, ih => by
    constructor
    · intro W tk
      obtain ⟨t, pa, h⟩ := ih W tk
      exact ⟨_, pe_cmp (pc_notN pa), fun B A G H σ ρ Q F g => h B A G H σ ρ _ F (g.then fun u ρ1 g1 v G1 H1 s1 F1 r1 => isN_at (neg := true) s1 F1 g1 r1)⟩
    · intro W tk
      obtain ⟨t, pa, h⟩ := ih W tk
      refine ⟨_, pt_cmp (pc_notN pa), fun B A G H σ ρ Q F g => h B A G H σ ρ _ F ((show FinV ⟨X.K, B, A, σ, W, cA⟩ G (fun x H1 => ∃ c, x = .bl c ∧ Q c H1) (evE U C (.isN true xa) ρ) from asB_v g).then fun u ρ1 g1 v G1 H1 s1 F1 r1 => ?_)⟩
      exact isN_at (neg := true) s1 F1 g1 r1
end

/-! ### try -/
structure TopX (X : Cx) : Prop where
  stk : X.stack = X.env :: X.outer
  ex : X.ex = []
  fr : X.env.frame = some X.env.locals
theorem FR.anyNo {K : Frg} {B G H : Hp} {A : Fix} {σ : L2.St} {ρ : Rho} (F : FR K B A G H σ ρ) {i : Nat} {v : Option V} (e : get ρ i = .no) : FR K B A G H (σ.set i v) ρ := by
  have ne : ∀ {j : Nat}, get ρ j ≠ .no → (σ.set i v)[j]? = σ[j]? := fun {j} h => st_ne fun z => h (z ▸ e)
  refine ⟨by simp [F.len], F.gh, F.bh, F.gb, fun j x z => ?_, fun j p c z => ?_, fun j p c z => ?_, fun j k p c p' c' w z1 z2 q1 q2 => ?_, fun j c x z => ?_, fun j a p z => ?_, F.fixd⟩
  · rw [ne (by rw [z]; simp)]; exact F.dat j x z
  · rw [ne (by rw [z]; simp)]; exact F.own j p c z
  · rw [ne (by rw [z]; simp)]; exact F.lck j p c z
  · rw [ne (by rw [z1]; simp)] at q1
    rw [ne (by rw [z2]; simp)] at q2
    exact F.inj j k p c p' c' w z1 z2 q1 q2
  · rw [ne (by rw [z]; simp)]; exact F.exc j c x z
  · obtain ⟨h1, l, c, h2, h3⟩ := F.fix j a p z
    rw [ne (by rw [h2]; simp)]
    exact ⟨h1, l, c, h2, h3⟩
def sCan (K : Frg) (cA : Nat → Addr) (W : WX) (o : Rho → Out Fl) : TS := fun D σ H => ∃ B A G ρ, FR K B A G H σ ρ ∧ FinS ⟨K, B, A, W, cA⟩ G D (o ρ)
theorem sn_can {cA : Nat → Addr} {X : Cx} {b : List Stmt} {o : Rho → Out Fl} (h : SN cA X b o) {W : WX} (tk : Takes X W) : PSs X b (sCan X.K cA W o) := by
  obtain ⟨t, p, k⟩ := h W tk
  exact ⟨fun pins s σ H D I ⟨B, A, G, ρ, F, g⟩ => p.run pins s σ H D I (k B A G H σ ρ D F g)⟩
section
variable {U : Consts} {C : Calls} {cA : Nat → Addr} {X : Cx} {body : List Stmt} {rb : Sts} {x n y : Str} {c i j : Nat} {D0 : Addr} {np ep yp asp pos pos' : Pos}
theorem s1_tryC (T : TopX X) (hN : X.N.Nodup) (hi : X.N[i]? = some n) (hj : X.N[j]? = some y) (hln : X.env.kindOf n = some .local) (hly : X.env.kindOf y = some .local)
    (hdn : (n == ("__debug__" : Str)) = false) (hcn : (n == ("__classdict__" : Str)) = false) (hc : Names X x (.ref D0))
    (sub : ∀ c' C', exA X.K c' C' → PySem.W.exmOne X.K (.ref C') (.ref D0) = some (excSub c' c))
    (hb : ∀ (pn : List (Addr × Obj)) (xe : Value → Shared → Prop), PassesOwn (model X.prog X.w) X.A X.env xe → SN cA (X.tr pn xe) body (runSs U C rb)) :
    S1 cA X (.Try body [.ExceptHandler (some (.Name x np)) (some n) [.Assign [.Name y yp] (.Name n ep) asp] pos'] [] [] pos) (runS U C (.tryC rb c i j)) := by
  intro W tk
  refine ⟨_, ps_catch (tb := fun W => sCan X.K cA W (runSs U C rb)) T.stk T.ex T.fr hN hi hj hln hly hdn hcn hc tk fun W pn xe tk' hp => sn_can (X := X.tr pn xe) (hb pn xe hp) tk', fun B A G H σ ρ D F g => ⟨B, A, G, ρ, F, ?_⟩⟩
  rw [runS] at g
  cases q : runSs U C rb ρ with
  | stuck => rw [q] at g; exact g
  | ok f ρ1 =>
    rw [q] at g
    cases f <;> exact g
  | exc c' v ρ1 =>
    rw [q] at g
    simp only [caughtO] at g
    intro cls d σ' G' H' s' F' ex
    obtain ⟨rfl, hx, dx, u, rfl, h1, h2⟩ := ex
    refine ⟨_, sub c' _ hx, fun hb a ha => ?_, fun hb => ?_⟩
    · rw [if_pos hb] at g
      split at g
      · rename_i ρ2 e
        rw [Option.bind_eq_some_iff] at e
        obtain ⟨ρa, e1, e2⟩ := e
        obtain ⟨o1, rfl⟩ := put_some e1
        obtain ⟨o2, rfl⟩ := put_some e2
        split at g
        · exact g.elim
        · rename_i hij
          have nw := New.both (o := ExY (.ref (cA c')) (some dx) a) F'.gh ha
          have F1 := F'.new nw
          have F2 := F1.store (x := .no) (v := .ref a) o1 True.intro
          have F3 := F2.store (x := .x c' v) (v := .ref a) o2 ⟨a, dx, cA c', u, rfl, hx, upd_same, nw.gg _ _ h1, dp_up nw.gg h2⟩
          refine g _ _ _ (s'.tr nw.gg) (F3.anyNo (i := i) ?_)
          have hl : i < ρ1.length := by
            simp only [open', Bool.and_eq_true, decide_eq_true_eq] at o1
            exact o1.1
          rw [get_set_ne (fun z => hij z.symm), get_set_same hl]
      · exact g.elim
    · rw [hb, if_neg Bool.false_ne_true] at g
      exact g _ _ σ' G' H' s' F' ⟨rfl, hx, dx, u, rfl, h1, h2⟩
end
end Ev

set_option Elab.async false
set_option linter.all false
set_option maxRecDepth 100000
/-! Stores beside each other: i, j = a, b. -/
namespace Ev
open PySem PySem.Spec PyProof.Rows L2

section
variable {K : Frg} {B B' G G' H H' : Hp} {A : Fix} {σ : L2.St} {ρ : Rho}
/-- an own object that no slot holds is looked after by others -/
theorem FR.guard (F : FR K B A G H σ ρ) {a : Addr} {o : HO} (hG : G a = none) (hH : H a = some o) (hn : ∀ i p c, get ρ i = .o p false c → σ[i]? ≠ some (some (.ref a))) : FR K (upd B a o) A G H σ ρ := by
  refine ⟨F.len, F.gh, F.bh.at hH, fun b u e => ?_, F.dat, fun i p c e => ?_, fun i p c e => ?_, F.inj, F.exc, F.fix, F.fixd⟩
  · have : b ≠ a := fun z => by subst z; rw [hG] at e; cases e
    rw [upd_ne this]; exact F.gb b u e
  · obtain ⟨b, k1, k2, k3, k4⟩ := F.own i p c e
    have : b ≠ a := fun z => by subst z; exact hn i p c e k1
    exact ⟨b, k1, k2, by rw [upd_ne this]; exact k3, k4⟩
  · obtain ⟨b, xs, vs, k1, k2, k3, k4⟩ := F.lck i p c e
    by_cases h : b = a
    · subst h
      rw [F.bh _ _ k3] at hH; cases hH
      exact ⟨b, xs, vs, k1, k2, upd_same, k4⟩
    · exact ⟨b, xs, vs, k1, k2, by rw [upd_ne h]; exact k3, k4⟩
/-- .. no longer -/
theorem FR.drop (F : FR K B' A G H σ ρ) (s : Sub B B') (hA : ∀ i a p, A i = some (a, p) → B' a = B a) : FR K B A G H σ ρ := by
  refine ⟨F.len, F.gh, s.tr F.bh, fun a o e => none_of_sub s (F.gb a o e), F.dat, fun i p c e => ?_, fun i p c e => ?_, F.inj, F.exc, F.fix, F.fixd⟩
  · obtain ⟨a, k1, k2, k3, k4⟩ := F.own i p c e
    exact ⟨a, k1, k2, none_of_sub s k3, k4⟩
  · obtain ⟨a, xs, vs, k1, k2, k3, k4⟩ := F.lck i p c e
    obtain ⟨b, hb⟩ := F.fixd i p true c e (by simp)
    obtain ⟨m1, _⟩ := F.fix i b p hb
    rw [k1] at m1; cases m1
    exact ⟨_, xs, vs, k1, k2, by rw [← hA i _ p hb]; exact k3, k4⟩
def ConO (K : Frg) (G : Hp) (a : Addr) (o : HO) : Con → Prop
  | .lst xs => ∃ vs, o = .lst vs ∧ DpAll K G vs xs
  | .dct kvs => DctO K G a o kvs
theorem ConO.at {o : HO} {c : Con} {a : Addr} (h : ConO K G a o c) (e : H a = some o) (s : Sub G G') : ConAt K G' H a c := by
  cases c with
  | lst xs => obtain ⟨vs, rfl, d⟩ := h; exact ⟨vs, e, dps_up s d⟩
  | dct k => exact ⟨o, e, DctO.up h s⟩
theorem conO_of {c : Con} {a : Addr} (h : ConAt K G H a c) : ∃ o, H a = some o ∧ ConO K G a o c := by
  cases c with
  | lst xs => obtain ⟨vs, e, d⟩ := h; exact ⟨_, e, vs, rfl, d⟩
  | dct k => exact h
/-- a value that is kept -/
def KV (K : Frg) (B B' G : Hp) (v : V) : EV → Prop
  | .d x => Dp K G v x
  | .x c x => XAt K G v c x
  | .o c => ∃ a o, v = .ref a ∧ B a = none ∧ B' a = some o ∧ ConO K G a o c
  | .b _ => False
def KDis (vs : List V) (us : List EV) : Prop := ∀ (i j : Nat) (a : Addr) (c c' : Con), vs[i]? = some (V.ref a) → us[i]? = some (EV.o c) → vs[j]? = some (V.ref a) → us[j]? = some (EV.o c') → i = j
theorem KV.mono {B0 : Hp} {v : V} {u : EV} (h : KV K B0 B' G v u) (s : Sub B B0) : KV K B B' G v u := by
  cases u with
  | d x => exact h
  | x c x => exact h
  | o c => obtain ⟨a, o, h1, h2, h3, h4⟩ := h; exact ⟨a, o, h1, none_of_sub s h2, h3, h4⟩
  | b i => exact h
theorem Paired.imp' {α β : Type} {P Q : α → β → Prop} (h : ∀ a b, P a b → Q a b) : ∀ {xs : List α} {ys : List β}, Paired P xs ys → Paired Q xs ys
  | _, _, .nil => .nil
  | _, _, .cons a t => .cons (h _ _ a) (Paired.imp' h t)
/-- what the kept values are -/
structure Kept (K : Frg) (B : Hp) (A : Fix) (B' G H : Hp) (σ : L2.St) (ρ : Rho) (vs : List V) (us : List EV) : Prop where
  bb : Sub B B'
  fr : FR K B' A G H σ ρ
  ab : ∀ i a p, A i = some (a, p) → B' a = B a
  pr : Paired (KV K B B' G) vs us
  ds : KDis vs us
end
def PKp (Γ : Cn) (G : Hp) (Q : List V → Hp → Prop) (us : List EV) (ρ : Rho) : Prop := ∀ vs B' G' H', Sub G G' → Kept Γ.K Γ.B Γ.A B' G' H' Γ.σ ρ vs us → Q vs H'
section
variable {U : Consts} {C : Calls} {cA : Nat → Addr} {X : Cx} {e : Expr} {es : List Expr} {xa : Ex} {xs : Exs}
def SKp (cA : Nat → Addr) (X : Cx) (es : List Expr) (o : Rho → Out (List EV)) : Prop := ∀ W, Takes X W → ∃ t, PA X es t ∧ ∀ B A G H σ ρ Q, FR X.K B A G H σ ρ → Fin (PKp ⟨X.K, B, A, σ, W, cA⟩ G Q) (PX ⟨X.K, B, A, σ, W, cA⟩ G) (o ρ) → t σ H Q
theorem skp_nil : SKp cA X [] (keeps U C .nil) := fun W tk => ⟨_, pa_nil, fun B A G H σ ρ Q F g => g [] B G H Sub.rfl ⟨Sub.rfl, F, fun _ _ _ _ => rfl, .nil, fun i j a c c' h => by simp at h⟩⟩
theorem kv_cons {K : Frg} {B : Hp} {A : Fix} {B1 B' G H : Hp} {σ : L2.St} {ρ : Rho} {v : V} {u : EV} {vs : List V} {us : List EV} (s : Sub B B1) (hA : ∀ i a p, A i = some (a, p) → B1 a = B a) (h : KV K B B1 G v u) (k : Kept K B1 A B' G H σ ρ vs us) : Kept K B A B' G H σ ρ (v :: vs) (u :: us) := by
  refine ⟨s.tr k.bb, k.fr, fun i a p e => (k.ab i a p e).trans (hA i a p e), .cons ?_ (Paired.imp' (fun _ _ q => q.mono s) k.pr), fun i j a c c' e1 e2 e3 e4 => ?_⟩
  · cases u with
    | d x => exact h
    | x c x => exact h
    | o c => obtain ⟨a, o, h1, h2, h3, h4⟩ := h; exact ⟨a, o, h1, h2, k.bb _ _ h3, h4⟩
    | b i => exact h
  · have far : ∀ {n : Nat} {a : Addr} {c c' : Con}, v = V.ref a → u = EV.o c → vs[n]? = some (V.ref a) → us[n]? = some (EV.o c') → False := fun {n a c c'} z1 z2 z3 z4 => by
      obtain ⟨w, q1, q2⟩ := paired_get k.pr z4
      rw [z3] at q1; cases q1
      obtain ⟨b, o, m1, m2, _⟩ := q2
      cases m1
      subst z1 z2
      obtain ⟨b', o', n1, _, n3, _⟩ := h
      cases n1
      rw [m2] at n3; cases n3
    cases i with
    | zero =>
      cases j with
      | zero => rfl
      | succ j => exact (far (by simpa using e1) (by simpa using e2) (by simpa using e3) (by simpa using e4)).elim
    | succ i =>
      cases j with
      | zero => exact (far (by simpa using e3) (by simpa using e4) (by simpa using e1) (by simpa using e2)).elim
      | succ j => rw [k.ds i j a c c' (by simpa using e1) (by simpa using e2) (by simpa using e3) (by simpa using e4)]
theorem skp_cons (hs : starEach (e :: es) X.env = (false, eval e X.env) :: starEach es X.env) (ih : SE U C cA X e xa) (ihr : SKp cA X es (keeps U C xs)) : SKp cA X (e :: es) (keeps U C (.cons xa xs)) := by
  intro W tk
  obtain ⟨ta, pa, ha⟩ := ih W tk
  obtain ⟨tr, pr, hr⟩ := ihr W tk
  refine ⟨_, pa_cons pa pr hs, fun B A G H σ ρ Q F g => ?_⟩
  rw [keeps] at g
  refine ha B A G H σ ρ _ F (g.then fun u ρ1 g1 v G1 H1 s1 F1 r1 => ?_)
  have fin : ∀ {w : EV} {ρ2 : Rho} {G2 B2 : Hp}, Sub G1 G2 → Sub B B2 → (∀ i a p, A i = some (a, p) → B2 a = B a) → FR X.K B2 A G2 H1 σ ρ2 → KV X.K B B2 G2 v w →
      Fin (PKp ⟨X.K, B, A, σ, W, cA⟩ G Q) (PX ⟨X.K, B, A, σ, W, cA⟩ G) ((keeps U C xs ρ2).bind fun ws ρ3 => .ok (w :: ws) ρ3) → tr σ H1 fun vs H2 => Q (v :: vs) H2 := by
    intro w ρ2 G2 B2 s2 sB hA F2 kv g2
    refine hr B2 A G2 H1 σ ρ2 _ F2 (Fin.imp g2.bind (fun ws ρ3 g3 vs B' G' H' s' k => ?_) fun c x ρ3 z cls d G' H' s' F' ex => ?_)
    · refine g3 (v :: vs) B' G' H' ((s1.tr s2).tr s') (kv_cons sB hA ?_ k)
      cases w with
      | d x => exact dp_up s' kv
      | x c x => exact XAt.up kv s'
      | o c =>
        obtain ⟨a, o, h1, h2, h3, h4⟩ := kv
        refine ⟨a, o, h1, h2, h3, ?_⟩
        cases c with
        | lst ys => obtain ⟨vs, q1, q2⟩ := h4; exact ⟨vs, q1, dps_up s' q2⟩
        | dct k => exact DctO.up h4 s'
      | b i => exact kv
    · exact z cls d G' H' ((s1.tr s2).tr s') (F'.drop sB hA) ex
  cases u with
  | d x => exact fin Sub.rfl Sub.rfl (fun _ _ _ _ => rfl) F1 (show KV X.K B B G1 v (.d x) from r1) g1
  | x c x => exact fin Sub.rfl Sub.rfl (fun _ _ _ _ => rfl) F1 (show KV X.K B B G1 v (.x c x) from r1) g1
  | b i =>
    simp only [keep] at g1
    rw [bind_assoc'] at g1
    obtain ⟨x, ρ2, G2, s2, F2, d, g2⟩ := frozen2 (Γ := ⟨X.K, B, A, σ, W, cA⟩) g1 F1 r1
    exact fin s2 Sub.rfl (fun _ _ _ _ => rfl) F2 (show KV X.K B B G2 v (.d x) from d) g2
  | o c =>
    obtain ⟨a, rfl, h2, h3, h4, h5⟩ := r1
    obtain ⟨o, ho, hc⟩ := conO_of h4
    refine fin Sub.rfl (Sub.add h3) (fun i b p e => ?_) (F1.guard h2 ho h5) (show KV X.K B _ G1 (.ref a) (.o c) from ⟨a, o, rfl, h3, upd_same, hc⟩) g1
    have : b ≠ a := fun z => by
      subst z
      obtain ⟨k1, l, c', k2, k3⟩ := F1.fix i b p e
      cases l with
      | false => exact h5 i p c' k2 k1
      | true =>
        obtain ⟨b', xs, vs, m1, m2, m3, m4⟩ := F1.lck i p c' k2
        rw [k1] at m1; cases m1
        rw [h3] at m3; cases m3
    exact upd_ne this
end

/-! the stores -/
def setAll : L2.St → List Nat → List V → L2.St
  | σ, i :: is, v :: vs => setAll (σ.set i (some v)) is vs
  | σ, _, _ => σ
section
variable {K : Frg} {B G H : Hp} {A : Fix}
theorem put_all : ∀ {is : List Nat} {us : List EV} {vs : List V} {σ : L2.St} {ρ ρ' : Rho}, FR K B A G H σ ρ → Paired (fun v u => RelEV K B G H σ ρ v u ∧ ∀ i, u ≠ .b i) vs us → KDis vs us → putAll is us ρ = some ρ' → FR K B A G H (setAll σ is vs) ρ'
  | [], [], vs, σ, ρ, ρ', F, p, d, e => by
    cases p
    simp only [putAll] at e; cases e
    exact F
  | [], u :: us, vs, σ, ρ, ρ', F, p, d, e => by simp [putAll] at e
  | i :: is, [], vs, σ, ρ, ρ', F, p, d, e => by simp [putAll] at e
  | i :: is, u :: us, vs, σ, ρ, ρ', F, p, d, e => by
    cases p with
    | @cons v _ vs _ h t =>
      simp only [putAll] at e
      rw [Option.bind_eq_some_iff] at e
      obtain ⟨ρ1, e1, e2⟩ := e
      obtain ⟨h1, rfl⟩ := put_some e1
      obtain ⟨r, nb⟩ := h
      have hl : i < ρ.length := by
        simp only [open', Bool.and_eq_true, decide_eq_true_eq] at h1
        exact h1.1
      have hs : i < σ.length := by rw [← F.len]; exact hl
      have F1 : FR K B A G H (σ.set i (some v)) (ρ.set i (toVr u)) := by
        refine F.store h1 ?_
        cases u with
        | d x => exact r
        | x c x => exact r
        | o c =>
          obtain ⟨a, rfl, k2, k3, k4, k5⟩ := r
          exact ⟨rfl, rfl, a, rfl, k2, k3, k4, fun j p c' _ q => k5 j p c' q⟩
        | b j => exact (nb j rfl).elim
      show FR K B A G H (setAll (σ.set i (some v)) is vs) ρ'
      have all : ∀ {ws : List V} {zs : List EV}, (∀ (n : Nat) (a : Addr) (c : Con), ws[n]? = some (.ref a) → zs[n]? = some (.o c) → ∀ c', u = .o c' → v ≠ .ref a) → Paired (fun v u => RelEV K B G H σ ρ v u ∧ ∀ i, u ≠ .b i) ws zs →
          Paired (fun w z => RelEV K B G H (σ.set i (some v)) (ρ.set i (toVr u)) w z ∧ ∀ i, z ≠ .b i) ws zs := by
        intro ws zs
        induction ws generalizing zs with
        | nil => intro _ q; cases q; exact .nil
        | cons w ws ih =>
          intro far q
          cases q with
          | @cons _ z _ zs hq tq =>
            refine .cons ⟨?_, hq.2⟩ (ih (fun n a c z1 z2 => far (n + 1) a c (by simpa using z1) (by simpa using z2)) tq)
            cases z with
            | d x => exact hq.1
            | x c x => exact hq.1
            | b j => exact (hq.2 j rfl).elim
            | o c =>
              obtain ⟨a, rfl, k2, k3, k4, k5⟩ := hq.1
              refine ⟨a, rfl, k2, k3, k4, fun j p c' q => ?_⟩
              by_cases hj : j = i
              · subst hj
                rw [get_set_same hl] at q
                rw [st_same hs]
                intro z
                cases z
                cases u with
                | o c0 => exact far 0 a c (by simp) (by simp) c0 rfl rfl
                | d x => cases q
                | x c x => cases q
                | b j => cases q
              · rw [get_set_ne (Ne.symm hj)] at q
                rw [st_ne (Ne.symm hj)]
                exact k5 j p c' q
      refine put_all F1 (all (fun n a c z1 z2 c' hu hv => ?_) t) (fun i j a c c' z1 z2 z3 z4 => ?_) e2
      · have := d 0 (n + 1) a c' c (by simpa using hv) (by simpa using hu) (by simpa using z1) (by simpa using z2)
        cases this
      · have := d (i + 1) (j + 1) a c c' (by simpa using z1) (by simpa using z2) (by simpa using z3) (by simpa using z4)
        omega
theorem Kept.rel {B' : Hp} {σ : L2.St} {ρ : Rho} {vs : List V} {us : List EV} (k : Kept K B A B' G H σ ρ vs us) : FR K B A G H σ ρ ∧ Paired (fun v u => RelEV K B G H σ ρ v u ∧ ∀ i, u ≠ .b i) vs us := by
  refine ⟨k.fr.drop k.bb k.ab, Paired.imp' (fun v u h => ?_) k.pr⟩
  cases u with
  | d x => exact ⟨h, fun _ z => nomatch z⟩
  | x c x => exact ⟨h, fun _ z => nomatch z⟩
  | b i => exact h.elim
  | o c =>
    obtain ⟨a, o, rfl, h2, h3, h4⟩ := h
    refine ⟨⟨a, rfl, ?_, h2, h4.at (k.fr.bh _ _ h3) Sub.rfl, fun i p c' e z => ?_⟩, fun _ z => nomatch z⟩
    · cases q : G a with
      | none => rfl
      | some u => have := k.fr.gb a u q; rw [h3] at this; cases this
    · obtain ⟨b, m1, m2, m3, _⟩ := k.fr.own i p c' e
      rw [z] at m1; cases m1
      rw [h3] at m3; cases m3
end
section
variable {U : Consts} {C : Calls} {cA : Nat → Addr} {X : Cx}
theorem par_go {W : WX} {B : Hp} {A : Fix} {G : Hp} {σ : L2.St} {is : List Nat} {D : Ends} {us : List EV} {ρ1 : Rho} {vs : List V} {B' G' H' : Hp} (g : FinS ⟨X.K, B, A, W, cA⟩ G D (match putAll is us ρ1 with
      | some ρ2 => .ok .nx ρ2
      | none => .stuck)) (s : Sub G G') (k : Kept X.K B A B' G' H' σ ρ1 vs us) : D.nx (setAll σ is vs) H' := by
  split at g
  · rename_i ρ2 e
    obtain ⟨F, r⟩ := k.rel
    exact g _ G' H' s (put_all F r k.ds e)
  · exact g.elim
theorem s1_parL2 {i j : Nat} {x y : Str} {a b : Expr} {xs : Exs} {px py pt pos : Pos} {kt k2 pt2} (hc : X.calm = true) (hN : X.N.Nodup) (hi : X.N[i]? = some x) (hj : X.N[j]? = some y) (hij : i ≠ j)
    (hx : X.env.scope.names.lookup x = some .local) (hy : X.env.scope.names.lookup y = some .local)
    (hw : swappedStores [.Tuple [.Name x px, .Name y py] kt pt] (.Tuple [a, b] k2 pt2) X.env = pure (some [x, y]))
    (hs : swapsWithSole [.Tuple [.Name x px, .Name y py] kt pt] (.Tuple [a, b] k2 pt2) pos.line X.env = pure false) (ih : SKp cA X [a, b] (keeps U C xs)) :
    S1 cA X (.Assign [.Tuple [.Name x px, .Name y py] kt pt] (.Tuple [a, b] k2 pt2) pos) (runS U C (.par [i, j] xs)) := by
  intro W tk
  obtain ⟨t, p, h⟩ := ih W tk
  refine ⟨_, ps_par hc hN hi hj hij hx hy p hw hs, fun B A G H σ ρ D F g => ?_⟩
  rw [runS] at g
  refine h B A G H σ ρ _ F (Fin.ex g Sub.rfl fun us ρ1 g1 vs B' G' H' s' k => ?_)
  have e := par_go g1 s' k
  have hl : us.length = 2 := by
    cases q : putAll [i, j] us ρ1 with
    | none => rw [q] at g1; exact g1.elim
    | some ρ2 =>
      match us, q with
      | [u, w], _ => rfl
      | [], q => simp [putAll] at q
      | [u], q => (simp only [putAll] at q; rw [Option.bind_eq_some_iff] at q; obtain ⟨_, _, q⟩ := q; simp [putAll] at q)
      | u :: w :: z :: r, q => (simp only [putAll] at q; rw [Option.bind_eq_some_iff] at q; obtain ⟨_, _, q⟩ := q; rw [Option.bind_eq_some_iff] at q; obtain ⟨_, _, q⟩ := q; simp [putAll] at q)
  have hv := Paired.length k.pr
  match vs, hv.trans hl with
  | [v, w], _ => exact ⟨v, w, rfl, e⟩
theorem s1_parL3 {i j l : Nat} {x y z : Str} {a b c : Expr} {xs : Exs} {px py pz pt pos : Pos} {kt k2 pt2} (hc : X.calm = true) (hN : X.N.Nodup) (hi : X.N[i]? = some x) (hj : X.N[j]? = some y) (hl : X.N[l]? = some z) (hij : i ≠ j) (hil : i ≠ l) (hjl : j ≠ l)
    (hx : X.env.scope.names.lookup x = some .local) (hy : X.env.scope.names.lookup y = some .local) (hz : X.env.scope.names.lookup z = some .local)
    (hw : swappedStores [.Tuple [.Name x px, .Name y py, .Name z pz] kt pt] (.Tuple [a, b, c] k2 pt2) X.env = pure (some [x, y, z]))
    (hs : swapsWithSole [.Tuple [.Name x px, .Name y py, .Name z pz] kt pt] (.Tuple [a, b, c] k2 pt2) pos.line X.env = pure false) (ih : SKp cA X [a, b, c] (keeps U C xs)) :
    S1 cA X (.Assign [.Tuple [.Name x px, .Name y py, .Name z pz] kt pt] (.Tuple [a, b, c] k2 pt2) pos) (runS U C (.par [i, j, l] xs)) := by
  intro W tk
  obtain ⟨t, p, h⟩ := ih W tk
  refine ⟨_, ps_par3 hc hN hi hj hl hij hil hjl hx hy hz p hw hs, fun B A G H σ ρ D F g => ?_⟩
  rw [runS] at g
  refine h B A G H σ ρ _ F (Fin.ex g Sub.rfl fun us ρ1 g1 vs B' G' H' s' k => ?_)
  have e := par_go g1 s' k
  have hl : us.length = 3 := by
    cases q : putAll [i, j, l] us ρ1 with
    | none => rw [q] at g1; exact g1.elim
    | some ρ2 =>
      have len : ∀ {is : List Nat} {us : List EV} {ρ ρ' : Rho}, putAll is us ρ = some ρ' → us.length = is.length := by
        intro is
        induction is with
        | nil => intro us ρ ρ' q; cases us with
          | nil => rfl
          | cons _ _ => simp [putAll] at q
        | cons i is ih =>
          intro us ρ ρ' q
          cases us with
          | nil => simp [putAll] at q
          | cons u us =>
            simp only [putAll] at q
            rw [Option.bind_eq_some_iff] at q
            obtain ⟨_, _, q⟩ := q
            simp [ih q]
      exact len q
  have hv := Paired.length k.pr
  match vs, hv.trans hl with
  | [u, v, w], _ => exact ⟨u, v, w, rfl, e⟩
end
end Ev

set_option Elab.async false
set_option linter.all false
set_option maxRecDepth 100000
/-! xs[::-1] of lists and tuples; i.bit_length(); calls with names in any order. -/
namespace Ev
open PySem PySem.Spec PyProof.Rows
section
variable {prog : Program} {w : World} {A : Around} {E : Value → Shared → Prop} {s : Shared}
theorem adjust_rev (n : Nat) : Builtin.Slice.sliceAdjust none none (-1) (n : Int) = ((n : Int) - 1, -1) := rfl
theorem places_rev (n : Nat) : Builtin.Slice.slicePlaces ((n : Int) - 1) (-1) (-1) = n := by
  unfold Builtin.Slice.slicePlaces
  rw [if_neg (by decide)]
  simp only [show (- -1 : Int) = 1 from rfl, Int.ediv_one]
  split <;> omega
theorem applied_rev {sl : Addr} {vk : Value} {n : Nat} {Q : Int × Int × Nat → Shared → Prop} (hs : s.heap.IsSliceOf sl .none .none vk) (pk : IsPart vk (some (-1))) (h : Q ((n : Int) - 1, -1, n) s) :
    wpAny (model prog w) A (Builtin.Slice.sliceApplied (.ref sl) (pure (n : Int))) Q E s := by
  obtain ⟨os, hos, hcs, hds⟩ := id hs
  unfold Builtin.Slice.sliceApplied Builtin.Slice.sliceFields
  refine wpAny_bind (wpAny_bind (wpAny_field hos hds (x := Value.none) rfl (wpAny_bind (wpAny_field hos hds (x := Value.none) rfl (wpAny_bind (wpAny_field hos hds (x := vk) rfl (wpAny_pure ?_)))))))
  refine wpAny_bind (HT.slicePart_ pk ?_)
  show wpAny _ _ (if ((-1 : Int) == 0) = true then _ else _) _ _ s
  rw [if_neg (by decide)]
  refine wpAny_bind (slicePart_none (wpAny_bind (slicePart_none (wpAny_bind (wpAny_pure ?_)))))
  show wpAny _ _ (match Builtin.Slice.sliceAdjust none none (-1) (n : Int) with | (lo, hi) => pure (lo, (-1 : Int), Builtin.Slice.slicePlaces lo hi (-1))) _ _ s
  rw [adjust_rev]
  show wpAny _ _ (pure ((n : Int) - 1, (-1 : Int), Builtin.Slice.slicePlaces ((n : Int) - 1) (-1) (-1))) _ _ s
  rw [places_rev]
  exact wpAny_pure h
theorem fm_congr {α β : Type} {f g : α → Option β} : ∀ {l : List α}, (∀ x ∈ l, f x = g x) → l.filterMap f = l.filterMap g
  | [], _ => rfl
  | x :: l, h => by rw [List.filterMap_cons, List.filterMap_cons, h x (List.mem_cons_self ..), fm_congr fun y hy => h y (List.mem_cons_of_mem _ hy)]
theorem pick_rev (xs : Array Value) : ((List.range xs.size).filterMap fun (m : Nat) => xs[((xs.size : Int) - 1 + (m : Int) * -1).toNat]?).toArray = xs.toList.reverse.toArray := by
  have e : ∀ m ∈ List.range xs.size, xs[((xs.size : Int) - 1 + (m : Int) * -1).toNat]? = xs.toList.reverse[m]? := fun m hm => by
    have hm := List.mem_range.mp hm
    rw [List.getElem?_reverse (by simpa using hm), Array.getElem?_toList]
    congr 1
    simp
    omega
  rw [fm_congr e]
  congr 1
  have : ∀ (l : List Value) (n : Nat), n = l.length → (List.range n).filterMap (fun m => l[m]?) = l := by
    intro l n hn
    subst hn
    induction l with
    | nil => rfl
    | cons x r ih =>
      rw [List.length_cons, List.range_succ_eq_map, List.filterMap_cons]
      simp only [List.getElem?_cons_zero, List.filterMap_map]
      congr 1
  exact this _ _ (by simp)
theorem getItem_tup_rev {t sl : Addr} {items : Array Value} {vk : Value} {Q : Value → Shared → Prop} (ht : IsTup s.heap t items) (hs : s.heap.IsSliceOf sl .none .none vk) (pk : IsPart vk (some (-1)))
    (h : Q (.ref s.heap.objs.size) { s with heap := s.heap.push { cls := .type "tuple", data := .seq items.toList.reverse.toArray } }) (hsz : items.size ≤ sizeLine) : wpAny (model prog w) A (getItem (.ref t) (.ref sl)) Q E s := by
  have room : sizeOk (.seq items.toList.reverse.toArray) := by
    show items.toList.reverse.toArray.size ≤ sizeLine
    simpa using hsz
  obtain ⟨os, hos, hcs, hds⟩ := id hs
  have hTs : s.TypeIs (.ref sl) "slice" := ⟨os, hos, hcs⟩
  unfold getItem
  try with_reducible refine wpAny_holding ?_
  first | refine wpAny_bind (wpAny_pure ?_) | skip
  refine wpAny_bind (wpAny_sequenceKey ht.typeIs (by decide) ?_)
  refine wpAny_bind (wpAny_callSpecial?_slot (name := Str.ofString "__getitem__") ht.typeIs PyProof.Rows.slot_tuple_getitem (wpAny_call_entry PyProof.Rows.slot_tuple_getitem ht.typeIs entry_tuple_getitem ?_ (args_tuple_getitem _ _)))
  show wpAny _ _ (Builtin.Tuple.tupleItemsOf (.ref t) >>= _) _ _ s
  refine wpAny_bind (tupleItemsOf_ ht (wpAny_bind (wpAny_typeOf hTs ?_)))
  rw [if_pos (by decide)]
  refine wpAny_bind (applied_rev hs pk ?_)
  have no : ¬ (((items.size : Int) - 1 == 0 && (-1 : Int) == 1 && items.size == items.size) = true) := by simp
  show wpAny _ _ (if ((items.size : Int) - 1 == 0 && (-1 : Int) == 1 && items.size == items.size) = true then _ else _) _ _ s
  rw [if_neg no, pick_rev]
  first
    | exact wpAny_bind (m := Builtin.Tuple.tupleExact _) (wpAny_newObj_type (wpAny_pure ⟨_, rfl, wpAny_pure h⟩) room)
    | exact wpAny_bind (m := Builtin.Tuple.tupleExact _) (wpAny_newObj_type (wpAny_bind (wpAny_pure (wpAny_pure ⟨_, rfl, wpAny_pure h⟩))) room)
    | exact wpAny_bind (wpAny_bind (m := Builtin.Tuple.tupleExact _) (wpAny_newObj_type (wpAny_pure (wpAny_pure ⟨_, rfl, wpAny_pure h⟩)) room))
    | exact wpAny_bind (wpAny_bind (m := Builtin.Tuple.tupleExact _) (wpAny_newObj_type (wpAny_pure ⟨_, rfl, wpAny_pure h⟩) room))
end
end Ev
namespace Ev
open PySem PySem.Spec PyProof.Rows L2
def tRev (K : Frg) (te : TE) : TE := fun σ H Q => te σ H fun x H1 => ∃ a xs, x = V.ref a ∧ ((SqL K H1 a xs ∧ ∀ p, H1 p = none → Q (.ref p) (upd H1 p (.lst xs.reverse))) ∨ (SqT K H1 a xs ∧ ∀ p, H1 p = none → Q (.ref p) (upd H1 p (.tup xs.reverse))))
section
variable {U : Consts} {C : Calls} {cA : Nat → Addr} {X : Cx} {e : Expr} {xa : Ex} {p1 p2 p3 pos apos : Pos} {k : Nat}
theorem pe_rev {te : TE} (he : PE X e te) : PE X (.Subscript e (.Slice none none (some (.UnaryOp .USub (.Constant (.int 1) k p1) p2)) p3) pos) (tRev X.K te) := by
  refine ⟨fun pins s σ H Q I h => Subscript_ (thn (he.run pins s σ H _ I h) fun v s1 ⟨x, H1, I1, r1, q1⟩ => ?_)⟩
  obtain ⟨a, xs, ex, q⟩ := q1
  subst ex
  cases r1
  have hst : PO X (some (.UnaryOp .USub (.Constant (.int 1) k p1) p2)) (tPart (tUn (rU fun i => .int (-i)) (tC (.int 1)))) := po_some (pe_un un_neg pe_int)
  refine wpAny_Slice (thn (po_none.run pins s1 σ H1 (fun o H2 => o = none ∧ H2 = H1) I1 ⟨rfl, rfl⟩) fun vl s2 ⟨l, H2, I2, pl, el, e2⟩ => ?_)
  subst el e2
  refine thn (po_none.run pins s2 σ H2 (fun o H3 => o = none ∧ H3 = H2) I2 ⟨rfl, rfl⟩) fun vu s3 ⟨u, H3, I3, pu, eu, e3⟩ => ?_
  subst eu e3
  refine thn (hst.run pins s3 σ H3 (fun o H4 => o = some (-1) ∧ H4 = H3) I3 ⟨1, rfl, -1, rfl, rfl, rfl⟩) fun vs s4 ⟨o, H4, I4, ps, eo, e4⟩ => ?_
  subst eo e4
  have I5 : Inv X pins σ H4 { s4 with heap := s4.heap.push { cls := .type "slice", data := .fields #[vl, vu, vs] } } := I4.kept (t' := s4.toks) fun b ob q => Heap.get?_push_of_some _ q
  show wpAny (model X.prog X.w) X.A (subscriptTail e (.Slice none none (some (.UnaryOp .USub (.Constant (.int 1) k p1) p2)) p3) (.ref a) (.ref s4.heap.objs.size)) (EP X pins σ Q) X.xe { s4 with heap := s4.heap.push { cls := .type "slice", data := .fields #[vl, vu, vs] } }
  rcases q with ⟨hx, q⟩ | ⟨hx, q⟩
  · obtain ⟨its, r, ht, hz⟩ := I5.list hx
    have hlen := r.length
    refine tail_any (ops := [.ref a, .ref s4.heap.objs.size]) ht.isList.typeIs (PySem.slot_list_getitem.lookup) ?_ (by with_unfolding_all rfl)
    refine wpAny_getItem_list_slice ht.isList (Heap.IsSliceOf.new _ vl vu vs) pl pu ps (by decide) ?_ (by rw [List.size_toArray]; omega)
    rw [PySem.W.krv_pick]
    refine ⟨.ref _, _, I5.laid (t' := s4.toks) (o := .lst xs.reverse) (fun b ob q => Heap.get?_push_of_some _ q) (Nat.le_refl _) ?_, rfl, q _ (I5.hok.fresh (Nat.le_refl _))⟩
    exact ⟨by rw [List.length_reverse]; exact hz, _, 0, r.reverse, Heap.get?_push_size _ rfl⟩
  · obtain ⟨its, r, ht, hz⟩ := I5.tuple hx
    have hlen := r.length
    cases pl
    cases pu
    refine tail_any (ops := [.ref a, .ref s4.heap.objs.size]) ht.typeIs (PyProof.Rows.slot_tuple_getitem.lookup) ?_ (by with_unfolding_all rfl)
    refine getItem_tup_rev ht (Heap.IsSliceOf.new _ .none .none vs) ps ?_ (by rw [List.size_toArray]; omega)
    refine ⟨.ref _, _, I5.laid (t' := s4.toks) (o := .tup xs.reverse) (fun b ob q => Heap.get?_push_of_some _ q) (Nat.le_refl _) ?_, rfl, q _ (I5.hok.fresh (Nat.le_refl _))⟩
    exact ⟨by rw [List.length_reverse]; exact hz, _, r.reverse, IsTup.new _ _⟩
theorem dps_rev {K : Frg} {G : Hp} : ∀ {ds : List PyData} {vs : List V}, DpAll K G vs ds → DpAll K G vs.reverse ds.reverse
  | [], _, h => by cases h; exact .nil
  | d :: ds, _, h => by
    cases h with
    | cons h1 h2 =>
      rw [List.reverse_cons, List.reverse_cons]
      exact dps_app (dps_rev h2) (dps_one h1)
theorem se_rev (ih : SE U C cA X e xa) : SE U C cA X (.Subscript e (.Slice none none (some (.UnaryOp .USub (.Constant (.int 1) k p1) p2)) p3) pos) (.rev xa) := by
  intro W tk
  obtain ⟨t, pa, h⟩ := ih W tk
  refine ⟨_, pe_rev pa, fun B A G H σ ρ Q F g => h B A G H σ ρ _ F (g.then fun u ρ1 g1 v G1 H1 s1 F1 r1 => ?_)⟩
  split at g1
  · rename_i xs e1
    obtain ⟨a, vs, rfl, h2, h3, _⟩ := (F1.rde r1 e1).tup F1.gh
    refine ⟨a, vs, rfl, .inr ⟨h2, fun p hp => ?_⟩⟩
    have nw := New.both (o := .tup vs.reverse) F1.gh hp
    exact g1 _ _ _ (s1.tr nw.gg) (F1.new nw) (.tup (.inl (.inl upd_same)) (dps_up nw.gg (dps_rev h3)))
  · rename_i xs e1
    obtain ⟨a, vs, rfl, h2, h3⟩ := (F1.rde r1 e1).lst F1.gh
    refine ⟨a, vs, rfl, .inl ⟨h2, fun p hp => ?_⟩⟩
    have nw := New.own (o := .lst vs.reverse) F1.gh hp
    have F2 := F1.new nw
    refine g1 _ _ _ (s1.tr nw.gg) F2 ⟨p, rfl, none_of_sub F1.gh hp, none_of_sub F1.bh hp, ⟨_, upd_same, dps_rev h3⟩, fun i p' c' e2 z => ?_⟩
    obtain ⟨b, m1, _, _, m4⟩ := F1.own i p' c' e2
    have m1' : σ[i]? = some (some (V.ref b)) := m1
    rw [z] at m1'; cases m1'
    obtain ⟨o, ho⟩ := m4.some
    rw [hp] at ho; cases ho
  · exact g1.elim
theorem se_bits (hbase : attributeBase e "bit_length" X.env (eval e X.env) = eval e X.env) (hline : (apos.endLine == pos.line) = true) (ih : SE U C cA X e xa) : SE U C cA X (.Call (.Attribute e "bit_length" apos) [] [] pos) (.bits xa) := by
  intro W tk
  obtain ⟨t, pa, h⟩ := ih W tk
  refine ⟨_, pe_bits pa hbase hline, fun B A G H σ ρ Q F g => h B A G H σ ρ _ F (g.then fun u ρ1 g1 v G1 H1 s1 F1 r1 => ?_)⟩
  split at g1
  · rename_i i e1
    exact ⟨i, (F1.rde r1 e1).int, g1 _ G1 H1 s1 F1 (.int _)⟩
  · exact g1.elim
/-- a call with names in any order -/
theorem agR_up {K : Frg} {G G' : Hp} {σ : L2.St} (s : Sub G G') {v : V} {a : Ag} (h : AgR K G σ v a) : AgR K G' σ v a := by
  cases a with
  | d x => exact dp_up s h
  | io i => exact h
variable {n f np : Nat} {fa : Addr} {fd : FuncData} {ps names : List Str} {π : List Nat} {x : Str} {es : List Expr} {ks : List Keyword} {xs xk : As} {p : Pos}
theorem callM_go {W : WX} {B : Hp} {A : Fix} {G : Hp} {σ : L2.St} {Q : VK} {tk' : TA} (hlπ : π.length = ps.length) (hl : ∀ avs, C f avs ≠ .stuck → avs.length = ps.length)
    (hk : ∀ B A G H σ ρ Q, FR X.K B A G H σ ρ → Fin (PA' ⟨X.K, B, A, σ, W, cA⟩ G Q) (PX ⟨X.K, B, A, σ, W, cA⟩ G) (evAs U C xk ρ) → tk' σ H Q)
    {ags : List Ag} {ρ1 : Rho} {vs : List V} {G1 H1 : Hp} (s1 : Sub G G1) (F1 : FR X.K B A G1 H1 σ ρ1) (r1 : Paired (AgR X.K G1 σ) vs ags)
    (g1 : FinV ⟨X.K, B, A, σ, W, cA⟩ G Q ((evAs U C xk ρ1).bind fun b ρ2 => if ags.length = np ∧ ags.length + b.length = π.length then callO C f (reord π (ags ++ b)) ρ2 else .stuck)) :
    tk' σ H1 fun ws H2 => vs.length = np ∧ vs.length + ws.length = π.length ∧ SpF X.K cA C ps.length f (reord π (vs ++ ws)) H2 Q fun c d H' => W c d σ H' := by
  refine hk B A G1 H1 σ ρ1 _ F1 (g1.step s1 fun b ρ2 g2 ws G2 H2 s2 F2 r2 => ?_)
  split at g2
  · rename_i hc
    have e1 := Paired.length r1
    have e2 := Paired.length r2
    refine ⟨by omega, by omega, ?_⟩
    exact call_sp F2 (paired_reord (paired_app (Paired.imp' (fun _ _ q => agR_up s2 q) r1) r2) π) hl (s1.tr s2) g2
  · exact g2.elim
theorem se_callM {e1 : Expr} (F : FOk X.prog X.w X.K X.mg X.base n fa fd ps (SpF X.K cA C ps.length f)) (hr : Room (n + 3) X.A) (hgd : X.A.guards = some []) (hl : ∀ avs, C f avs ≠ .stuck → avs.length = ps.length) (hg : Gl X x) (hm : X.mg x = some (.ref fa)) (hk : PySem.W.keepIn X.K (.ref fa) = true)
    (hlπ : π.length = ps.length) (hb : ∀ (s : Shared) (us ws : List Value), us.length = np → us.length + ws.length = π.length → BindsTo s fd ⟨us, names.zip ws⟩ (ps.zip (reord π (us ++ ws)))) (hdb : (x == ("__debug__" : Str)) = false)
    (hall : (backToKw pos (keywordEach ks X.env)).all (·.1.isSome) = true) (hks : (backToKw pos (keywordEach ks X.env)).filterMap (·.1) = names)
    (he : starEach (e1 :: es) X.env = (false, eval e1 X.env) :: starEach es X.env) (hpl : ((backTo pos (starEach (e1 :: es) X.env)).any (·.1) || (backToKw pos (keywordEach ks X.env)).any (·.1.isNone)) = false)
    (ih : SA cA X (e1 :: es) (evAs U C xs)) (ihk : SK cA X ks (evAs U C xk)) : SE U C cA X (.Call (.Name x p) (e1 :: es) ks pos) (.callM f np π xs xk) := by
  intro W tk
  obtain ⟨t, pa, h⟩ := ih W tk
  obtain ⟨t', pk, h'⟩ := ihk W tk
  exact ⟨_, pe_callXM F hr hgd hg hm hk hb tk pa pk hdb hall hks he hpl, fun B A G H σ ρ Q F g => h B A G H σ ρ _ F (g.then fun ags ρ1 g1 vs G1 H1 s1 F1 r1 => callM_go hlπ hl h' s1 F1 r1 g1)⟩
theorem se_callM0 (F : FOk X.prog X.w X.K X.mg X.base n fa fd ps (SpF X.K cA C ps.length f)) (hr : Room (n + 3) X.A) (hgd : X.A.guards = some []) (hl : ∀ avs, C f avs ≠ .stuck → avs.length = ps.length) (hg : Gl X x) (hm : X.mg x = some (.ref fa)) (hk : PySem.W.keepIn X.K (.ref fa) = true)
    (hlπ : π.length = ps.length) (hb : ∀ (s : Shared) (us ws : List Value), us.length = 0 → us.length + ws.length = π.length → BindsTo s fd ⟨us, names.zip ws⟩ (ps.zip (reord π (us ++ ws)))) (hdb : (x == ("__debug__" : Str)) = false)
    (hall : (backToKw pos (keywordEach ks X.env)).all (·.1.isSome) = true) (hks : (backToKw pos (keywordEach ks X.env)).filterMap (·.1) = names)
    (hpl : ((backTo pos (starEach [] X.env)).any (·.1) || (backToKw pos (keywordEach ks X.env)).any (·.1.isNone)) = false)
    (ihk : SK cA X ks (evAs U C xk)) : SE U C cA X (.Call (.Name x p) [] ks pos) (.callM f 0 π .nil xk) := by
  intro W tk
  obtain ⟨t', pk, h'⟩ := ihk W tk
  refine ⟨_, pe_callXM0 F hr hgd hg hm hk hb tk pk hdb hall hks hpl, fun B A G H σ ρ Q F g => ?_⟩
  exact callM_go (ags := []) hlπ hl h' Sub.rfl F .nil g
end
end Ev

set_option Elab.async false
set_option linter.all false
set_option maxRecDepth 100000
/-! Methods that read: xs.count(y). -/
namespace Ev
open PySem PySem.Spec PyProof.Rows L2
def Mth.id : Mth → String
  | .lcount => "list.count"
  | .lindex => "list.index"
def Mth.ty : Mth → String
  | .lcount => "list"
  | .lindex => "list"
def Mth.has (K : Frg) : Mth → V → Hp → Prop
  | _ => fun x H => ∃ a vs, x = .ref a ∧ SqL K H a vs
section
variable {X : Cx}
theorem mth_ty (m : Mth) : TyOk X m.ty (m.has X.K) := by
  intro pins σ H s x v I r ty
  cases m <;> (
    obtain ⟨a, vs, rfl, h⟩ := ty
    cases r
    obtain ⟨its, rv, ⟨o, n, h1, h2, h3, h4⟩, _⟩ := I.list h
    refine ⟨⟨o, h1, h2⟩, fun b e => ?_⟩
    cases e
    exact ⟨o, h1, h3⟩)
def rMth (K : Frg) (m : Mth) : V → List V → Hp → VK → Prop := fun x vs H Q => ∃ G d ds ev, Sub G H ∧ RdV K G H x d ∧ RdVs K G H vs ds ∧ mthD m d ds = some ev ∧ Give K G H ev Q
theorem mt_mth (hu : X.A.units + 100 < cLine) (m : Mth) : MtR X m.id (rMth X.K m) := by
  intro pins s σ H x xs v us Q I rx rs h
  obtain ⟨G, d, ds, ev, sub, hx, hs, he, g⟩ := h
  unfold mthD at he
  split at he
  · split at he
    · rename_i xs' y hc
      cases he
      simp only [Bool.and_eq_true, decide_eq_true_eq] at hc
      obtain ⟨⟨⟨c1, c2⟩, c3⟩, c4⟩ := hc
      obtain ⟨w, rfl, hw⟩ := hs.one
      obtain ⟨u, rfl, ru⟩ := vals1 rs
      obtain ⟨as, rd⟩ := Dp.reads I _ x v (hx.dp sub) rx
      obtain ⟨bs, rd'⟩ := Dp.reads I _ w u (hw.dp sub) ru
      obtain ⟨a, vs, rfl, hl, _⟩ := hx.lst sub
      cases rx
      cases rd with
      | list h1 h2 h3 h4 =>
        refine SeqAt.count_list_data (vs := _) ⟨_, h1, h2, _, h3⟩ h4 rd' c1 c2 (by omega) ?_
        exact ⟨.int _, H, I.tok _, ⟨_, rfl⟩, g.now sub (.int _)⟩
    · cases he
  · cases he
end
section
variable {U : Consts} {C : Calls} {cA : Nat → Addr} {X : Cx} {e e1 : Expr} {es : List Expr} {xa : Ex} {xs : Exs} {apos pos : Pos}
def baseOk : Expr → Bool
  | .Call _ _ _ _ => false
  | _ => true
theorem base_ok {e : Expr} {m : Str} {env : Env} (h : baseOk e = true) : attributeBase e m env (eval e env) = eval e env := by
  cases e <;> first | rfl | (simp [baseOk] at h; done)
theorem mthD_ok {m : Mth} {d : PyData} {ds : List PyData} : ∀ u, mthD m d ds = some u → (∀ i, u ≠ .b i) ∧ (∀ k, u ≠ .o (.dct k)) ∧ ∀ c y, u ≠ .x c y := by
  intro u e
  unfold mthD at e
  split at e <;> (try split at e) <;> cases e <;> exact ⟨(by intro _ z; cases z), (by intro _ z; cases z), (by intro _ _ z; cases z)⟩
theorem se_mth {m : Mth} (hu : X.A.units + 100 < cLine) (hb : baseOk e = true) (hline : (apos.endLine == pos.line) = true)
    (hfew : ((backTo pos (starEach (e1 :: es) X.env)).all (fun x => !x.1) && (backToKw pos (keywordEach [] X.env)).all (fun x => x.1.isSome)
      && decide ((e1 :: es).length + ([] : List Keyword).length + (if ([] : List Keyword).isEmpty then 0 else 1) < 30)) = true)
    (he : starEach (e1 :: es) X.env = (false, eval e1 X.env) :: starEach es X.env) (hpl : (backTo pos (starEach es X.env)).any (·.1) = false)
    (ih : SE U C cA X e xa) (ihs : SR cA X (e1 :: es) (evReads U C xs)) : SE U C cA X (.Call (.Attribute e m.py apos) (e1 :: es) [] pos) (.mth m xa xs) := by
  intro W tk
  obtain ⟨t, pa, h⟩ := ih W tk
  obtain ⟨t', pa', h'⟩ := ihs W tk
  have slot : Slot m.ty m.py m.id := by
    cases m
    · exact PySem.F.slot_list_count
    · exact PySem.F.slot_list_index
  have hty : typeOf (.builtin m.id) = pure (.type "method_descriptor") := by
    cases m
    · exact PySem.F.type_list_count
    · exact PySem.F.type_list_index
  have pl : PlainAttrs m.ty := by cases m <;> exact PySem.F.plainAttrs_list
  refine ⟨_, pe_mG (mth_ty m) pl slot hty (mt_mth hu m) pa pa' (base_ok hb) hfew hline he hpl, fun B A G H σ ρ Q F g => h B A G H σ ρ _ F (g.then fun u ρ1 g1 v G1 H1 s1 F1 r1 => ?_)⟩
  cases hk : hold u with
  | none => simp only [hk] at g1; exact g1.elim
  | some u' =>
    simp only [hk] at g1
    obtain ⟨G2, s2, F2, r2⟩ := held F1 r1 hk
    split at g1
    · rename_i hr
      refine ⟨?_, ?_⟩
      · cases hd : rd ρ1 u' with
        | none => rw [hd] at hr; cases m <;> cases hr
        | some d =>
          rw [hd] at hr
          have hrd := F2.rdh r2 hd
          cases m <;> (cases d <;> first | (cases hr; done) | (obtain ⟨a, vs, e, z, _⟩ := hrd.lst F2.gh; exact ⟨a, vs, e, z⟩))
      · refine h' B A G2 H1 σ ρ1 _ F2 (g1.step (s1.tr s2) fun us ρ2 g2 vs G3 H3 s3 F3 r3 => ?_)
        split at g2
        · rename_i d ds e1 e2
          obtain ⟨ev, e3, g3⟩ := g2.of
          exact ⟨G3, d, ds, ev, F3.gh, F3.rdh (r2.up s3) e1, rdvs F3 r3 e2, e3, give g3 ((s1.tr s2).tr s3) F3 (mthD_ok _ e3).1 (mthD_ok _ e3).2⟩
        · exact g2.elim
    · exact g1.elim
theorem se_dnew : SE U C cA X (.Dict [] [] pos) .dnew := fun W tk =>
  ⟨_, pe_dnewK, fun B A G H σ ρ Q F g p hp => g (.ref p) G (upd H p (.dK [])) Sub.rfl (F.new (New.own F.gh hp)) ⟨p, rfl, none_of_sub F.gh hp, none_of_sub F.bh hp, ⟨_, upd_same, .inl ⟨[], rfl, .nil⟩⟩, fun i q c e => F.notOwn hp i q c e⟩⟩
theorem dps_rg {K : Frg} {G : Hp} (i : Int) : ∀ l : List Nat, DpAll K G (l.map fun k => V.int (i + (k : Nat))) (l.map fun k => PyData.int (i + (k : Nat)))
  | [] => .nil
  | k :: l => .cons (.int _) (dps_rg i l)
theorem se_trg {a b : Expr} {xb : Ex} {p1 p2 p3 : Pos} (hc : X.calm = true) (hg : Gl X "range") (hm : X.mg "range" = none) (hg2 : Gl X "tuple") (hm2 : X.mg "tuple" = none) (na : starEach [a, b] X.env = (false, eval a X.env) :: starEach [b] X.env) (nb : starEach [b] X.env = (false, eval b X.env) :: starEach [] X.env)
    (hp : (backTo p3 (starEach [b] X.env)).any (·.1) = false) (iha : SE U C cA X a xa) (ihb : SE U C cA X b xb) : SE U C cA X (.Call (.Name "tuple" p1) [.Call (.Name "range" p2) [a, b] [] p3] [] pos) (.trg xa xb) := by
  intro W tk
  obtain ⟨ta, pa, ha⟩ := iha W tk
  obtain ⟨tb, pb, hb⟩ := ihb W tk
  refine ⟨_, pe_tupRg hc hg2 hm2 (prg_2 hg hm pa pb na nb hp), fun B A G H σ ρ Q F g => ha B A G H σ ρ _ F (g.then fun u ρ1 g1 v G1 H1 s1 F1 r1 => ?_)⟩
  split at g1
  · rename_i i
    cases r1
    refine hb B A G1 H1 σ ρ1 _ F1 (g1.step s1 fun w ρ2 g2 y G2 H2 s2 F2 r2 => ?_)
    split at g2
    · rename_i j
      cases r2
      split at g2
      · rename_i hj
        rw [Bool.and_eq_true, Bool.and_eq_true, small_iff, small_iff, decide_eq_true_eq] at hj
        have hz := hj.2
        rw [sizeLine_eq] at hz
        refine ⟨i, j, rfl, rfl, ⟨hj.1.1.1, hj.1.1.2, hj.1.2.1, hj.1.2.2, by omega⟩, fun q hq => ?_⟩
        have nw := New.both (o := .tup (rgV i j)) F2.gh hq
        exact g2 _ _ _ ((s1.tr s2).tr nw.gg) (F2.new nw) (.tup (.inl (.inl upd_same)) (dps_rg i _))
      · exact g2.elim
    · exact g2.elim
  · exact g1.elim
end
end Ev

set_option Elab.async false
set_option linter.all false
set_option maxRecDepth 100000
/-! Dict comprehensions. -/
namespace Ev
open PySem PySem.Spec PyProof.Rows L2
section
variable {X : Cx}
/-- {k: v for target in iter if ..}: D the new dict -/
def tDcX (K : Frg) (wi : TI) (g : TG) (tt : TT) (tk tv : TE) (vs : List Nat) : TE := fun σ H Q => wi σ H fun J H1 => ∀ D, H1 D = none → ∃ W : Nat → Nat → Hp → Prop, (∃ m, W 0 m (upd H1 D (.dK []))) ∧ ∀ i m H, W i m H →
  (J.stop i H ∧ Q (.ref D) H) ∨ (J.go i H ∧ ∃ Nx : Hp → Prop, (∀ H', Nx H' → ∃ m', m' < m ∧ W (i + 1) m' H') ∧ ∀ x H', J.yld i H x H' → g x (L2.wipe σ vs) H' fun σ2 H2 => L2.wipe σ2 vs = L2.wipe σ vs ∧ tt σ2 H2 fun b H3 =>
    if b = true then tk σ2 H3 fun y H4 => tv σ2 H4 fun z H5 => rSetK K (.ref D) y z H5 Nx else Nx H3)
theorem dc_coreX (hu : X.A.units + 100 < cLine) {pins : List (Addr × Obj)} {s : Shared} {σ : L2.St} {H : Hp} {Q : VK} {kx vx tg iter : Expr} {ifs : List Expr} {scope : Scope} {own : List (Str × Nat)} {pos pos' : Pos} {wi : TI} {g : TG} {tt : TT} {tk tv : TE} {use : Option (Value → Sem Unit)} {Qf : Value → Shared → Prop}
    (hc : X.calm = true) (hN : X.N.Nodup) (I : Inv X pins σ H s) (hi : PI X tg iter wi) (ok : BlkOk X.N X.env.scope scope own)
    (hg : ∀ (s : Shared) (H : Hp) (C : Addr) (cl : List (Str × Addr)) (fp : List Addr), PG (X.blk s H scope (compEnvC scope cl C X.env) fp) tg g) (ht : ∀ (s : Shared) (H : Hp) (C : Addr) (cl : List (Str × Addr)) (fp : List Addr), PTs (X.blk s H scope (compEnvC scope cl C X.env) fp) ifs tt)
    (hk : ∀ (s : Shared) (H : Hp) (C : Addr) (cl : List (Str × Addr)) (fp : List Addr), PE (X.blk s H scope (compEnvC scope cl C X.env) fp) kx tk)
    (he : ∀ (s : Shared) (H : Hp) (C : Addr) (cl : List (Str × Addr)) (fp : List Addr), PE (X.blk s H scope (compEnvC scope cl C X.env) fp) vx tv) (hs : ∀ x, foldedSetIterable iter X.env x = pure x)
    (h : tDcX X.K wi g tt tk tv (own.map (·.2)) σ H Q)
    (hRR : ∀ D C s' m H', Inv X pins σ H' s' → Q (.ref D) H' → s'.heap.Ns C m → FpOk X pins H' C → compPost (model X.prog X.w) X.A X.xe use Qf (.ref D) C (.ok .next) s') :
    wpAny (model X.prog X.w) X.A (comprehension (.DictComp kx vx [⟨tg, iter, ifs, 0⟩] scope pos) scope X.env pos' newDict false (eval iter X.env) use) Qf X.xe s := by
  have hfree : ∀ y ∈ scope.names, y.2 = .free → ∃ c, X.env.cells.lookup y.1 = some c := fun y hy e => by
    rcases ok.free y hy e with k | k
    · exact I.ok.has _ (.inl k)
    · exact I.ok.has _ (.inr k)
  refine wpAny_comprehension_free (use := use) rfl hs (closure_ok hfree) ok.kind (fun y hy e => by rw [ok.uniq y hy, e])
    (thn (hi.run pins s σ H _ I h) fun xv s1 hx => thn hx fun itv s2 h2 => ?_)
  obtain ⟨it, fp, tn, J, H2, e, I2, T, st2, f2, q⟩ := h2
  subst e
  refine wpAny_newObj_type (newEnv_comp ?_)
  generalize hD : s2.heap.objs.size = D
  have hDn : H2 D = none := I2.hok.fresh (Nat.le_of_eq hD)
  obtain ⟨W, ⟨m0, w0⟩, turn⟩ := q D hDn
  -- the new list
  generalize hs3 : ({ s2 with heap := s2.heap.push { cls := .type "dict", data := .dict #[] } } : Shared) = s3
  have I3 : Inv X pins σ (upd H2 D (.dK [])) s3 := by
    rw [← hs3]
    refine I2.laid (t' := s2.toks) (fun b o e => Heap.get?_push_of_some _ e) (Nat.le_of_eq hD) ?_
    rw [← hD]
    exact dk_empty s2.heap I2.big
  have h3 : s3.heap = s2.heap.push { cls := .type "dict", data := .dict #[] } := by rw [← hs3]
  have sz : ∀ b ∈ fp, b < s2.heap.objs.size := fun b hb => by
    obtain ⟨o, e, _⟩ := T.obj _ _ st2 b hb
    exact Heap.lt_size e
  have f3 : ∀ b ∈ fp, FpOk X pins (upd H2 D (.dK [])) b ∧ b < s3.heap.objs.size := fun b hb => by
    have hlt := sz b hb
    refine ⟨⟨?_, (f2 b hb).2⟩, by rw [h3, Heap.size_push]; exact Nat.lt_succ_of_lt hlt⟩
    rw [upd_ne (by rw [← hD]; exact Nat.ne_of_lt hlt)]
    exact (f2 b hb).1
  have st3 : tn 0 s3.heap := T.keep _ _ _ st2 fun b _ o e => by rw [h3]; exact Heap.get?_push_of_some _ e
  have I4 := block_start I3 ok hN f3
  have pg := hg s3 (upd H2 D (.dK [])) s3.heap.objs.size (cellsFrom (s3.heap.objs.size + 1) scope.names (cloFrom X.env.cells scope.names [])) fp
  have pt := ht s3 (upd H2 D (.dK [])) s3.heap.objs.size (cellsFrom (s3.heap.objs.size + 1) scope.names (cloFrom X.env.cells scope.names [])) fp
  have pk := hk s3 (upd H2 D (.dK [])) s3.heap.objs.size (cellsFrom (s3.heap.objs.size + 1) scope.names (cloFrom X.env.cells scope.names [])) fp
  have pe := he s3 (upd H2 D (.dK [])) s3.heap.objs.size (cellsFrom (s3.heap.objs.size + 1) scope.names (cloFrom X.env.cells scope.names [])) fp
  show codeAny _ _ (.compStart (.DictComp kx vx [⟨tg, iter, ifs, 0⟩] scope pos) 0 (.ref it) (.ref D) (compEnvC scope (cellsFrom (s3.heap.objs.size + 1) scope.names (cloFrom X.env.cells scope.names [])) s3.heap.objs.size X.env)) (compPost (model X.prog X.w) X.A X.xe use Qf (.ref D) s3.heap.objs.size) { s3 with heap := pushCells (s3.heap.push { cls := .type "dict", data := .dict #[] }) scope.names }
  have nfp : ∀ b ∈ fp, (upd H2 D (.dK [])) b = none := fun b hb => (f3 b hb).1.1
  generalize hce : compEnvC scope (cellsFrom (s3.heap.objs.size + 1) scope.names (cloFrom X.env.cells scope.names [])) s3.heap.objs.size X.env = ce at I4 pg pt pk pe ⊢
  have cL : ce.locals = s3.heap.objs.size := by subst hce; rfl
  generalize hH3 : upd H2 D (.dK []) = H3 at I3 I4 pg pt pk pe w0 nfp f3
  generalize hs4 : ({ s3 with heap := pushCells (s3.heap.push { cls := .type "dict", data := .dict #[] }) scope.names } : Shared) = s4 at I4 ⊢
  have st4 : tn 0 s4.heap := T.keep _ _ _ st3 fun b _ o e => by rw [← hs4]; exact pushCells_keeps _ _ _ _ (Heap.get?_push_of_some _ e)
  have stat : ∀ {σ' : L2.St} {H' : Hp} {s' : Shared}, Inv (X.blk s3 H3 scope ce fp) [] σ' H' s' → (∀ b ∈ fp, H' b = none) → ∀ b ∈ fp, FpOk (X.blk s3 H3 scope ce fp) [] H' b := fun {σ' H' s'} I' hn b hb =>
    ⟨hn b hb, (I'.ok.exf b hb).1, I'.ok.exfs b hb, .inl hb, fun x c e => (I'.ok.exf b hb).2 x c e, fun p hp => absurd (show p ∈ ([] : List (Addr × Obj)) ++ [] from hp) (by simp)⟩
  have loop : codeAny (model X.prog X.w) X.A (.compLoop (.DictComp kx vx [⟨tg, iter, ifs, 0⟩] scope pos) 0 (.ref it) (.ref D) ce) (compPost (model X.prog X.w) X.A X.xe use Qf (.ref D) s3.heap.objs.size) s4 := by
    refine compLoop_anyD (fun n s' => ∃ i H', Inv (X.blk s3 H3 scope ce fp) [] (wipe σ (own.map (·.2))) H' s' ∧ tn i s'.heap ∧ (∀ b ∈ fp, H' b = none) ∧ W i n H') ?_ m0 ⟨0, H3, I4, st4, nfp, w0⟩
    rintro n s5 ⟨i, H5, I5, st5, n5, w5⟩
    rcases turn i n H5 w5 with ⟨stop, qq⟩ | ⟨go, Nx, hNx, step⟩
    · have td := T.done (X.blk s3 H3 scope ce fp) rfl rfl rfl hc i [] s5 _ H5 (fun _ _ => False) I5 (stat I5 n5) st5 stop
      refine thnF td fun r s6 ⟨hr, I6⟩ => ?_
      subst hr
      -- back in the def's context
      have I7 : Inv X pins σ H5 s6 := I3.call' (ch := fp) I6.os I6.base I6.hok I6.bare fun b hb => ⟨(f3 b hb).1.2.2.2.1, (f3 b hb).1.2.1, (f3 b hb).1.2.2.2.2.1, (f3 b hb).1.2.2.2.2.2⟩
      have nC : H5 s3.heap.objs.size = none := by
        have z : H5 ce.locals = none := I6.free
        rw [cL] at z
        exact z
      obtain ⟨m, hn, _⟩ := I6.loc
      have hn : s6.heap.Ns ce.locals m := hn
      rw [cL] at hn
      exact hRR D s3.heap.objs.size s6 m H5 I7 qq hn (I3.fpOk (Nat.le_refl _) nC)
    · have ti := T.item (X.blk s3 H3 scope ce fp) rfl rfl rfl hc i [] s5 _ H5 (fun _ _ => False) I5 (stat I5 n5) st5 go
      refine thnF ti fun r s6 ⟨u, hr, h6⟩ => ?_
      subst hr
      refine thnF h6 fun _ s7 ⟨x, H7, I7, r7, y7, st7, n7⟩ => ?_
      have I7' := I7.pinned (stat I7 n7) (T.obj _ _ st7)
      refine thnF (pg.run _ s7 _ H7 x u _ I7' r7 (step x H7 y7)) fun _ s8 ⟨σ8, H8, I8, hw8, q8⟩ => ?_
      refine thnF (pt.run _ s8 σ8 H8 _ I8 q8) fun b s9 ⟨H9, I9, q9⟩ => ?_
      -- the turn's end
      have fin : ∀ {s' : Shared} {H' : Hp}, Inv (X.blk s3 H3 scope ce fp) ([] ++ pinsAt fp s7.heap) σ8 H' s' → Nx H' → ∃ m, m < n ∧ ∃ i H', Inv (X.blk s3 H3 scope ce fp) [] (wipe σ (own.map (·.2))) H' s' ∧ tn i s'.heap ∧ (∀ b ∈ fp, H' b = none) ∧ W i m H' := fun {s' H'} I' nx => by
        obtain ⟨m', hm, w'⟩ := hNx H' nx
        have pin' : ∀ b ∈ fp, ∀ o, s7.heap.get? b = some o → s'.heap.get? b = some o ∧ H' b = none := fun b hb o e =>
          let z := I'.pin (b, o) (List.mem_append_right _ (List.mem_append_right _ (mem_pinsAt hb e)))
          ⟨z.1, z.2.1⟩
        have hl : (wipe σ (own.map (·.2))).length = σ8.length := by rw [← hw8, wipe_length]
        refine ⟨m', hm, i + 1, H', (I'.unpinned (pins := [])).weak hl (fun j v e => ?_), T.keep _ _ _ st7 fun b hb o e => (pin' b hb o e).1, fun b hb => ?_, w'⟩
        · rw [← hw8] at e
          exact (wipe_some e).1
        · obtain ⟨o, e, _⟩ := T.obj _ _ st7 b hb
          exact (pin' b hb o e).2
      cases b with
      | false =>
        simp only [Bool.false_eq_true, if_false] at q9 ⊢
        exact fin I9 q9
      | true =>
        simp only [if_true] at q9 ⊢
        refine thnF (pk.run _ s9 σ8 H9 _ I9 q9) fun z s10 ⟨yk, H10, I10, r10, q10⟩ => ?_
        refine thnF (pe.run _ s10 σ8 H10 _ I10 q10) fun z2 s11 ⟨yv, H11, I11, r11, Gx, Dx, ob, kvs, k, xd, eD, sub, e11, d11, dk, dv, hf, hl, nx⟩ => ?_
        cases eD
        exact x_dictSet (X := X.blk s3 H3 scope ce fp) (by show X.A.units + 20 < cLine; omega) I11 sub e11 d11 hf hl dk r10 dv r11 fun o' s12 d12 I12 => fin I12 (nx o' d12)
  exact codeAny_compStart_dict loop (T.self X.A 0 _ _ _ st4 loop)
/-- as a value -/
theorem pe_dcX (hu : X.A.units + 100 < cLine) {kx vx tg iter : Expr} {ifs : List Expr} {scope : Scope} {own : List (Str × Nat)} {pos : Pos} {wi : TI} {g : TG} {tt : TT} {tk tv : TE} (hc : X.calm = true) (hN : X.N.Nodup) (hi : PI X tg iter wi) (ok : BlkOk X.N X.env.scope scope own)
    (hg : ∀ (s : Shared) (H : Hp) (C : Addr) (cl : List (Str × Addr)) (fp : List Addr), PG (X.blk s H scope (compEnvC scope cl C X.env) fp) tg g) (ht : ∀ (s : Shared) (H : Hp) (C : Addr) (cl : List (Str × Addr)) (fp : List Addr), PTs (X.blk s H scope (compEnvC scope cl C X.env) fp) ifs tt)
    (hk : ∀ (s : Shared) (H : Hp) (C : Addr) (cl : List (Str × Addr)) (fp : List Addr), PE (X.blk s H scope (compEnvC scope cl C X.env) fp) kx tk)
    (he : ∀ (s : Shared) (H : Hp) (C : Addr) (cl : List (Str × Addr)) (fp : List Addr), PE (X.blk s H scope (compEnvC scope cl C X.env) fp) vx tv) (hs : ∀ x, foldedSetIterable iter X.env x = pure x := by intro _; rfl) :
    PE X (.DictComp kx vx [⟨tg, iter, ifs, 0⟩] scope pos) (tDcX X.K wi g tt tk tv (own.map (·.2))) := by
  refine ⟨fun pins s σ H Q I h => ?_⟩
  rw [arm_eval_DictComp]
  refine dc_coreX hu hc hN I hi ok hg ht hk he hs h fun D C s' m H' I' q hn f => ⟨m, hn, fun h'' sb => ?_⟩
  obtain ⟨f0, f1, f2, f3, f4, f5⟩ := f
  exact ⟨.ref D, H', I'.turned (t' := s'.toks) (fun b o hb e => (sb.2 b hb).trans e) f0 f1 f3 f4 f5, rfl, q⟩
theorem ps_setDcX (hu : X.A.units + 100 < cLine) {i : Nat} {y : Str} {py : Pos} {kx vx tg iter : Expr} {ifs : List Expr} {scope : Scope} {own : List (Str × Nat)} {pos spos : Pos} {wi : TI} {g : TG} {tt : TT} {tk te : TE} (hc : X.calm = true) (hN : X.N.Nodup) (hy : X.N[i]? = some y) (hyl : X.env.scope.names.lookup y = some .local)
    (hsw : swapsWith (.DictComp kx vx [⟨tg, iter, ifs, 0⟩] scope pos) (some (.Name y py)) spos.line X.env = pure true) (hi : PI X tg iter wi) (ok : BlkOk X.N X.env.scope scope own)
    (hg : ∀ (s : Shared) (H : Hp) (C : Addr) (cl : List (Str × Addr)) (fp : List Addr), PG (X.blk s H scope (compEnvC scope cl C X.env) fp) tg g) (ht : ∀ (s : Shared) (H : Hp) (C : Addr) (cl : List (Str × Addr)) (fp : List Addr), PTs (X.blk s H scope (compEnvC scope cl C X.env) fp) ifs tt)
    (hk : ∀ (s : Shared) (H : Hp) (C : Addr) (cl : List (Str × Addr)) (fp : List Addr), PE (X.blk s H scope (compEnvC scope cl C X.env) fp) kx tk)
    (he : ∀ (s : Shared) (H : Hp) (C : Addr) (cl : List (Str × Addr)) (fp : List Addr), PE (X.blk s H scope (compEnvC scope cl C X.env) fp) vx te) (hs : ∀ x, foldedSetIterable iter X.env x = pure x := by intro _; rfl) :
    PS X (.Assign [.Name y py] (.DictComp kx vx [⟨tg, iter, ifs, 0⟩] scope pos) spos) (tAsg (tDcX X.K wi g tt tk te (own.map (·.2))) (gName i)) := by
  refine ⟨fun pins s σ H D I h => ?_⟩
  rw [exec_Assign_Name_used _ _ _ _ hsw]
  refine wpAny_bind (wpAny_standAt (wpAny_bind ?_))
  show wpAny _ X.A (do let _ ← comprehension (.DictComp kx vx [⟨tg, iter, ifs, 0⟩] scope pos) scope X.env (firstIterPos [⟨tg, iter, ifs, 0⟩] pos) newDict false (eval iter X.env) (some (assign (.Name y py) X.env))) _ _ s
  have h : tDcX X.K wi g tt tk te (own.map (·.2)) σ H (fun x H1 => gName i x σ H1 D.nx) := h
  refine wpAny_bind (thn (dc_coreX hu (Qf := fun _ s' => SP X pins D .next s') hc hN I hi ok hg ht hk he hs h fun L C s' m H' I' q hn f => ?_) fun _ s' hq => wpAny_pure (wpAny_pure hq))
  show wpAny _ _ (assign (.Name y py) X.env (.ref L)) _ _ _
  refine wpAny_assign_Name (store_ok2 (v := V.ref L) I' hN hy (.inl hyl) rfl (fun s2 I2 ⟨a, sb, ha⟩ => ?_) (.inr hyl))
  obtain ⟨f0, f1, f2, f3, f4, f5⟩ := f
  have haC : C ≠ a := by
    rcases ha with z | z
    · rw [z]; exact f1
    · exact fun e => f4 y a z e.symm
  refine ⟨m, hn.sameBut sb haC, fun h3 sb3 => ?_⟩
  exact ⟨_, H', I2.turned (t' := s2.toks) (fun b o hb e => (sb3.2 b hb).trans e) f0 f1 f3 f4 f5, q⟩
theorem sw_trueD {kx vx : Expr} {gs : List Comprehension} {scope : Scope} {pos py : Pos} {y : Str} {l : Nat} {env : Env} (hk : env.scope.kind = .function) (hy : env.scope.names.lookup y = some .local) (hl : (py.line == pos.line) = true)
    (ha : (scope.names.any fun (n, k) => n == y && (k == .local || k == .cell)) = false) : swapsWith (.DictComp kx vx gs scope pos) (some (.Name y py)) l env = pure true := by
  have ky : env.kindOf y = some .local := hy
  have hb : env.blockKind = .function := by unfold Env.blockKind; rw [hk]; rfl
  unfold swapsWith
  simp only [hb, ky, ha, Expr.pos, hl]
  rfl
end
section
variable {U : Consts} {C : Calls} {cA : Nat → Addr} {X : Cx}
theorem dcL_step {own : List Nat} {g : PyData → Rho → Option Rho} {cs : Rho → Out Bool} {e f : Rho → Out PyData} {x : PyData} {r : List PyData} {acc : List (PyData × PyData)} {ρ : Rho} {P : List (PyData × PyData) → Rho → Prop} (h : Fin P (fun _ _ _ => False) (dcL own g cs e f (x :: r) acc ρ)) :
    ∃ ρ1, g x ρ = some ρ1 ∧ Fin P (fun _ _ _ => False) ((cs ρ1).bind fun b ρ2 => if b then (e ρ2).bind fun k ρ3 => (f ρ3).bind fun y ρ4 => if keyFits acc k ∧ acc.length < sizeLine then dcL own g cs e f r (dPut acc k y) (wipeR ρ4 own) else .stuck else dcL own g cs e f r acc (wipeR ρ2 own)) := by
  simp only [dcL] at h
  cases q : g x ρ with
  | none => simp only [q] at h; exact h.elim
  | some ρ1 => simp only [q] at h; exact ⟨ρ1, rfl, h⟩
theorem se_dc {kx vx tg iter : Expr} {ifs : List Expr} {scope : Scope} {own : List (Str × Nat)} {pos : Pos} {xs : Src} {xc : Exs} {xk xe : Ex} {T : Tg} (hc : X.calm = true) (hN : X.N.Nodup) (ok : BlkOk X.N X.env.scope scope own) (hs : ∀ x, foldedSetIterable iter X.env x = pure x)
    (hT : ∀ i ∈ T.slots, i ∈ own.map (·.2))
    (hi : SSrc cA X tg iter (evSrc U C xs)) (hg : ∀ (s : Shared) (H : Hp) (D : Addr) (cl : List (Str × Addr)) (fp : List Addr), STg (X.blk s H scope (compEnvC scope cl D X.env) fp) tg T)
    (ht : ∀ (s : Shared) (H : Hp) (D : Addr) (cl : List (Str × Addr)) (fp : List Addr), SCs cA (X.blk s H scope (compEnvC scope cl D X.env) fp) ifs (evConds U C xc))
    (hk : ∀ (s : Shared) (H : Hp) (D : Addr) (cl : List (Str × Addr)) (fp : List Addr), SE U C cA (X.blk s H scope (compEnvC scope cl D X.env) fp) kx xk)
    (he : ∀ (s : Shared) (H : Hp) (D : Addr) (cl : List (Str × Addr)) (fp : List Addr), SE U C cA (X.blk s H scope (compEnvC scope cl D X.env) fp) vx xe) :
    ∀ W, Takes X W → ∃ t wi g tt tk' te, t = tDcX X.K wi g tt tk' te (own.map (·.2)) ∧ PI X tg iter wi ∧
      (∀ (s : Shared) (H : Hp) (D : Addr) (cl : List (Str × Addr)) (fp : List Addr), PG (X.blk s H scope (compEnvC scope cl D X.env) fp) tg g) ∧
      (∀ (s : Shared) (H : Hp) (D : Addr) (cl : List (Str × Addr)) (fp : List Addr), PTs (X.blk s H scope (compEnvC scope cl D X.env) fp) ifs tt) ∧
      (∀ (s : Shared) (H : Hp) (D : Addr) (cl : List (Str × Addr)) (fp : List Addr), PE (X.blk s H scope (compEnvC scope cl D X.env) fp) kx tk') ∧
      (∀ (s : Shared) (H : Hp) (D : Addr) (cl : List (Str × Addr)) (fp : List Addr), PE (X.blk s H scope (compEnvC scope cl D X.env) fp) vx te) ∧
      ∀ B A G H σ ρ Q, FR X.K B A G H σ ρ → FinV ⟨X.K, B, A, σ, W, cA⟩ G Q (evE U C (.dc (own.map (·.2)) T xs xc xk xe) ρ) → t σ H Q := by
  intro W tk
  obtain ⟨wi, pi, hw⟩ := hi W tk
  let W0 : WX := fun _ _ _ _ => False
  refine ⟨_, wi, gCan X.K T, bCan X.K cA W0 (evConds U C xc), tCan X.K cA W0 (evE U C xk), tCan X.K cA W0 (evE U C xe), rfl, pi, fun s H D cl fp => stg_can (hg s H D cl fp), fun s H D cl fp => scs_can (ht s H D cl fp) (takesNo _), fun s H D cl fp => so_can (hk s H D cl fp) (takesNo _), fun s H D cl fp => so_can (he s H D cl fp) (takesNo _), fun B A G H σ ρ Q F g => ?_⟩
  generalize hown : own.map (·.2) = vs at *
  refine hw B A G H σ ρ _ F ((show Fin _ _ ((evSrc U C xs ρ).bind _) from g).then fun il ρ1 g1 J G1 H1 B' A' s1 F1 bk sB wk => ?_)
  have wk := wk B' fun _ _ _ _ => rfl
  obtain ⟨items, l⟩ := il
  split at g1
  · rename_i hfree
    simp only [List.all_eq_true] at hfree
    have g2 : Fin (fun ys ρ2 => FinV ⟨X.K, B, A, σ, W, cA⟩ G Q (.ok (.o (.dct ys)) (unlock (restore ρ1 ρ2 vs) l))) (fun _ _ _ => False) (dcL vs T.to (evConds U C xc) (fun ρ => (evE U C xk ρ).bind fun v ρ' => fz ρ' v) (fun ρ => (evE U C xe ρ).bind fun v ρ' => fz ρ' v) items [] (wipeR (lock ρ1 l) vs)) := fin_noExc g1.bind
    clear g1
    have hA : ∀ i ∈ vs, A' i = none := fun i hi => by
      cases q : A' i with
      | none => rfl
      | some z =>
        obtain ⟨a, b⟩ := z
        obtain ⟨_, l', c, k2, _⟩ := F1.fix i a b q
        have := lock_own k2
        obtain ⟨l2, k3⟩ := this
        have f := hfree i hi
        simp [free, k3] at f
    refine fun D hD => ⟨fun i m H2 => i ≤ items.length ∧ m = items.length - i ∧ ∃ G2 ρ2 acc accd, Sub G1 G2 ∧ FR X.K (upd B' D acc) A' G2 H2 (L2.wipe σ vs) ρ2 ∧ DctO X.K G2 D acc accd ∧
      Fin (fun ys ρ2 => FinV ⟨X.K, B, A, σ, W, cA⟩ G Q (.ok (.o (.dct ys)) (unlock (restore ρ1 ρ2 vs) l))) (fun _ _ _ => False) (dcL vs T.to (evConds U C xc) (fun ρ => (evE U C xk ρ).bind fun v ρ' => fz ρ' v) (fun ρ => (evE U C xe ρ).bind fun v ρ' => fz ρ' v) (items.drop i) accd ρ2), ⟨_, Nat.zero_le _, rfl, G1, _, .dK [], [], Sub.rfl, (F1.wipe hA).more hD, .inl ⟨[], rfl, .nil⟩, g2⟩, ?_⟩
    have hB' : B' D = none := none_of_sub F1.bh hD
    have hNe := F1.fixNe hD
    rintro i m H2 ⟨hi, rfl, G2, ρ2, acc, accd, s2, F2, ds, g3⟩
    have sB2 : ∀ {o : HO}, Sub B' (upd B' D o) := Sub.add hB'
    rcases Nat.lt_or_ge i items.length with hlt | hge
    · refine .inr ⟨wk.go i G2 H2 s2 F2.gh (sB2.tr F2.bh) hlt, _, fun H' h => h, fun x H3 hy => ?_⟩
      have e1 : items[i]? = some (items[i]'hlt) := List.getElem?_eq_getElem _
      obtain ⟨G3, n3, d3⟩ := wk.yld i G2 H2 x H3 _ s2 F2.gh (sB2.tr F2.bh) e1 hy
      have F3 := F2.new n3
      rw [List.drop_eq_getElem_cons hlt] at g3
      obtain ⟨ρ3, e3, g4⟩ := dcL_step g3
      have ds3 := ds.up n3.gg
      refine ⟨_, _, G3, ρ2, _, ρ3, F3, d3, e3, fun σ' F' hb => ⟨wipe_but hb hT, ?_⟩⟩
      have wb := wipe_but hb hT
      refine ⟨_, _, G3, ρ3, F', g4.bind.imp (fun b ρ4 g5 G5 H5 s5 F5 => ?_) fun _ _ _ z => z.elim⟩
      cases b with
      | false =>
        rw [if_neg Bool.false_ne_true] at g5 ⊢
        refine ⟨items.length - (i + 1), by omega, by omega, rfl, G5, _, acc, accd, (s2.tr n3.gg).tr s5, ?_, ds3.up s5, g5⟩
        rw [← wb]
        exact F5.wipe hA
      | true =>
        rw [if_pos rfl] at g5 ⊢
        rw [bind_assoc'] at g5
        refine ⟨_, _, G5, ρ4, F5, g5.bind.imp (fun u ρ5 g6 v G6 H6 s6 F6 r6 => ?_) fun _ _ _ z => z.elim⟩
        obtain ⟨ky, ρ7, G7, s7, F7, d7, g7⟩ := frozen2 (Γ := ⟨X.K, upd B' D acc, A', σ', W0, cA⟩) g6 F6 r6
        rw [bind_assoc'] at g7
        refine ⟨_, _, G7, ρ7, F7, g7.bind.imp (fun u2 ρ8 g8 v2 G8 H8 s8 F8 r8 => ?_) fun _ _ _ z => z.elim⟩
        obtain ⟨y, ρ9, G9, s9, F9, d9, g9⟩ := frozen2 (Γ := ⟨X.K, upd B' D acc, A', σ', W0, cA⟩) g8 F8 r8
        split at g9
        · rename_i hk2
          have up9 := ((s5.tr s6).tr s7).tr (s8.tr s9)
          refine ⟨G9, D, acc, accd, ky, y, rfl, F9.gh, F9.bh _ _ upd_same, ds3.up up9, dp_up (s8.tr s9) d7, d9, hk2.1, hk2.2, fun ob' d' => ⟨items.length - (i + 1), by omega, by omega, rfl, G9, wipeR ρ9 vs, ob', dPut accd ky y, (s2.tr n3.gg).tr up9, ?_, d', g9⟩⟩
          rw [← wb]
          exact (F9.swap hNe).wipe hA
        · exact g9.elim
    · have he : i = items.length := by omega
      subst he
      rw [List.drop_length] at g3
      refine .inl ⟨wk.stop G2 H2 s2 F2.gh (sB2.tr F2.bh), ?_⟩
      have hl : ∀ i ∈ vs, get (lock ρ1 l) i = get ρ1 i := fun i hi => lock_free (hfree i hi)
      have F4 := F2.unwipe F1 s2 (fun i hi => by
        have := hfree i hi
        unfold free at this ⊢
        rw [hl i hi]; exact this)
      rw [rest_congr hl] at F4
      have F5 := bk.1 _ _ _ _ (F4.less hB' hNe)
      have hGD : G2 D = none := by
        cases q : G2 D with
        | none => rfl
        | some u => have := F4.gb D u q; rw [upd_same] at this; cases this
      refine g3 (.ref D) G2 H2 (s1.tr s2) F5 ⟨D, rfl, hGD, none_of_sub sB hB', ⟨acc, F4.bh _ _ upd_same, ds⟩, fun i p c' e z => ?_⟩
      obtain ⟨l', e'⟩ := unlock_own e
      cases l' with
      | false =>
        obtain ⟨a, k1, _, k3, _⟩ := F4.own i p c' e'
        rw [k1] at z; cases z
        rw [upd_same] at k3; cases k3
      | true =>
        obtain ⟨a, _, _, k1, _⟩ := F4.lck i p c' e'
        obtain ⟨b, hb⟩ := F4.fixd i p true c' e' (by simp)
        obtain ⟨m1, _⟩ := F4.fix i b p hb
        rw [m1] at z; cases z
        exact hNe i _ p hb rfl
  · exact g1.elim
end
end Ev

set_option Elab.async false
set_option linter.all false
set_option maxRecDepth 100000
/-! Comprehensions with two loops. -/
namespace Ev
open PySem PySem.Spec PyProof.Rows L2
def iCan (K : Frg) (cA : Nat → Addr) (W : WX) (o : Rho → Out (List PyData × Option Nat)) : TI := fun σ H R => ∃ B A G ρ, FR K B A G H σ ρ ∧ Fin (PS' ⟨K, B, A, σ, W, cA⟩ G R) (PX ⟨K, B, A, σ, W, cA⟩ G) (o ρ)
section
variable {U : Consts} {C : Calls} {cA : Nat → Addr} {X : Cx}
theorem src_can {tg it : Expr} {o : Rho → Out (List PyData × Option Nat)} (h : SSrc cA X tg it o) {W : WX} (tk : Takes X W) : PI X tg it (iCan X.K cA W o) := by
  obtain ⟨t, p, k⟩ := h W tk
  exact ⟨fun pins s σ H R I ⟨B, A, G, ρ, F, g⟩ => p.run pins s σ H R I (k B A G H σ ρ R F g)⟩
theorem lc2L_step {own own1 : List Nat} {g g1 : PyData → Rho → Option Rho} {cs cs1 : Rho → Out Bool} {src : Rho → Out (List PyData × Option Nat)} {e : Rho → Out PyData} {x : PyData} {r acc : List PyData} {ρ : Rho} {P : List PyData → Rho → Prop} (h : Fin P (fun _ _ _ => False) (lc2L own g cs own1 src g1 cs1 e (x :: r) acc ρ)) :
    ∃ ρ1, g x ρ = some ρ1 ∧ Fin P (fun _ _ _ => False) ((cs ρ1).bind fun b ρ2 => if b then (src ρ2).bind fun il ρ3 => match il.2 with
        | some _ => .stuck
        | none => (lcL own1 g1 cs1 e il.1 acc (wipeR ρ3 own1)).bind fun acc' ρ4 => lc2L own g cs own1 src g1 cs1 e r acc' (wipeR ρ4 own)
      else lc2L own g cs own1 src g1 cs1 e r acc (wipeR ρ2 own)) := by
  simp only [lc2L] at h
  cases q : g x ρ with
  | none => simp only [q] at h; exact h.elim
  | some ρ1 => simp only [q] at h; exact ⟨ρ1, rfl, h⟩
theorem se_lc2 {elt tg iter tg1 iter1 : Expr} {ifs ifs1 : List Expr} {scope : Scope} {own : List (Str × Nat)} {pos : Pos} {xs xs1 : Src} {xc xc1 : Exs} {xe : Ex} {T T1 : Tg} {vs1 : List Nat} (hc : X.calm = true) (hN : X.N.Nodup) (ok : BlkOk X.N X.env.scope scope own) (hs : ∀ x, foldedSetIterable iter X.env x = pure x)
    (hT : ∀ i ∈ T.slots, i ∈ own.map (·.2)) (hT1 : ∀ i ∈ T1.slots, i ∈ vs1) (hv : ∀ i ∈ vs1, i ∈ own.map (·.2))
    (hi1 : ∀ (s : Shared) (H : Hp) (D : Addr) (cl : List (Str × Addr)) (fp : List Addr), SSrc cA (X.blk s H scope (compEnvC scope cl D X.env) fp) tg1 iter1 (evSrc U C xs1))
    (hg1 : ∀ (s : Shared) (H : Hp) (D : Addr) (cl : List (Str × Addr)) (fp : List Addr), STg (X.blk s H scope (compEnvC scope cl D X.env) fp) tg1 T1)
    (ht1 : ∀ (s : Shared) (H : Hp) (D : Addr) (cl : List (Str × Addr)) (fp : List Addr), SCs cA (X.blk s H scope (compEnvC scope cl D X.env) fp) ifs1 (evConds U C xc1))
    (hi : SSrc cA X tg iter (evSrc U C xs)) (hg : ∀ (s : Shared) (H : Hp) (D : Addr) (cl : List (Str × Addr)) (fp : List Addr), STg (X.blk s H scope (compEnvC scope cl D X.env) fp) tg T)
    (ht : ∀ (s : Shared) (H : Hp) (D : Addr) (cl : List (Str × Addr)) (fp : List Addr), SCs cA (X.blk s H scope (compEnvC scope cl D X.env) fp) ifs (evConds U C xc))
    (he : ∀ (s : Shared) (H : Hp) (D : Addr) (cl : List (Str × Addr)) (fp : List Addr), SE U C cA (X.blk s H scope (compEnvC scope cl D X.env) fp) elt xe) :
    ∀ W, Takes X W → ∃ t wi g tt wi1 g1 tt1 te, t = tLc2 wi g tt wi1 g1 tt1 te (own.map (·.2)) vs1 ∧ PI X tg iter wi ∧
      (∀ (s : Shared) (H : Hp) (D : Addr) (cl : List (Str × Addr)) (fp : List Addr), PG (X.blk s H scope (compEnvC scope cl D X.env) fp) tg g) ∧
      (∀ (s : Shared) (H : Hp) (D : Addr) (cl : List (Str × Addr)) (fp : List Addr), PTs (X.blk s H scope (compEnvC scope cl D X.env) fp) ifs tt) ∧
      (∀ (s : Shared) (H : Hp) (D : Addr) (cl : List (Str × Addr)) (fp : List Addr), PI (X.blk s H scope (compEnvC scope cl D X.env) fp) tg1 iter1 wi1) ∧
      (∀ (s : Shared) (H : Hp) (D : Addr) (cl : List (Str × Addr)) (fp : List Addr), PG (X.blk s H scope (compEnvC scope cl D X.env) fp) tg1 g1) ∧
      (∀ (s : Shared) (H : Hp) (D : Addr) (cl : List (Str × Addr)) (fp : List Addr), PTs (X.blk s H scope (compEnvC scope cl D X.env) fp) ifs1 tt1) ∧
      (∀ (s : Shared) (H : Hp) (D : Addr) (cl : List (Str × Addr)) (fp : List Addr), PE (X.blk s H scope (compEnvC scope cl D X.env) fp) elt te) ∧
      ∀ B A G H σ ρ Q, FR X.K B A G H σ ρ → FinV ⟨X.K, B, A, σ, W, cA⟩ G Q (evE U C (.lc2 (own.map (·.2)) T xs xc vs1 T1 xs1 xc1 xe) ρ) → t σ H Q := by
  intro W tk
  obtain ⟨wi, pi, hw⟩ := hi W tk
  let W0 : WX := fun _ _ _ _ => False
  refine ⟨_, wi, gCan X.K T, bCan X.K cA W0 (evConds U C xc), iCan X.K cA W0 (evSrc U C xs1), gCan X.K T1, bCan X.K cA W0 (evConds U C xc1), tCan X.K cA W0 (evE U C xe), rfl, pi, fun s H D cl fp => stg_can (hg s H D cl fp), fun s H D cl fp => scs_can (ht s H D cl fp) (takesNo _), fun s H D cl fp => src_can (hi1 s H D cl fp) (takesNo _), fun s H D cl fp => stg_can (hg1 s H D cl fp), fun s H D cl fp => scs_can (ht1 s H D cl fp) (takesNo _), fun s H D cl fp => so_can (he s H D cl fp) (takesNo _), fun B A G H σ ρ Q F g => ?_⟩
  generalize hown : own.map (·.2) = vs at *
  have ww : ∀ τ : L2.St, L2.wipe (L2.wipe τ vs1) vs = L2.wipe τ vs := fun τ => wipe_but (js := vs) ⟨by rw [wipeS_len, wipeS_len], fun j hj => by rw [wipeS_out (fun z => hj (hv j z)), wipeS_out hj]⟩ fun _ h => h
  refine hw B A G H σ ρ _ F ((show Fin _ _ ((evSrc U C xs ρ).bind _) from g).then fun il ρ1 g1 J G1 H1 B' A' s1 F1 bk sB wk => ?_)
  have wk := wk B' fun _ _ _ _ => rfl
  obtain ⟨items, l⟩ := il
  split at g1
  · rename_i hfree
    simp only [List.all_eq_true] at hfree
    have g2 : Fin (fun ys ρ2 => FinV ⟨X.K, B, A, σ, W, cA⟩ G Q (.ok (.o (.lst ys)) (unlock (restore ρ1 ρ2 vs) l))) (fun _ _ _ => False) (lc2L vs T.to (evConds U C xc) vs1 (evSrc U C xs1) T1.to (evConds U C xc1) (fun ρ => (evE U C xe ρ).bind fun v ρ' => fz ρ' v) items [] (wipeR (lock ρ1 l) vs)) := fin_noExc g1.bind
    clear g1
    have hA : ∀ i ∈ vs, A' i = none := fun i hi => by
      cases q : A' i with
      | none => rfl
      | some z =>
        obtain ⟨a, b⟩ := z
        obtain ⟨_, l', c, k2, _⟩ := F1.fix i a b q
        have := lock_own k2
        obtain ⟨l2, k3⟩ := this
        have f := hfree i hi
        simp [free, k3] at f
    refine fun D hD => ⟨fun i m H2 => i ≤ items.length ∧ m = items.length - i ∧ ∃ G2 ρ2 acc accd, Sub G1 G2 ∧ FR X.K (upd B' D (.lst acc)) A' G2 H2 (L2.wipe σ vs) ρ2 ∧ DpAll X.K G2 acc accd ∧
      Fin (fun ys ρ2 => FinV ⟨X.K, B, A, σ, W, cA⟩ G Q (.ok (.o (.lst ys)) (unlock (restore ρ1 ρ2 vs) l))) (fun _ _ _ => False) (lc2L vs T.to (evConds U C xc) vs1 (evSrc U C xs1) T1.to (evConds U C xc1) (fun ρ => (evE U C xe ρ).bind fun v ρ' => fz ρ' v) (items.drop i) accd ρ2), ⟨_, Nat.zero_le _, rfl, G1, _, [], [], Sub.rfl, (F1.wipe hA).more hD, .nil, g2⟩, ?_⟩
    have hB' : B' D = none := none_of_sub F1.bh hD
    have hNe := F1.fixNe hD
    rintro i m H2 ⟨hi, rfl, G2, ρ2, acc, accd, s2, F2, ds, g3⟩
    have sB2 : ∀ {o : HO}, Sub B' (upd B' D o) := Sub.add hB'
    rcases Nat.lt_or_ge i items.length with hlt | hge
    · refine .inr ⟨wk.go i G2 H2 s2 F2.gh (sB2.tr F2.bh) hlt, _, fun H' h => h, fun x H3 hy => ?_⟩
      have e1 : items[i]? = some (items[i]'hlt) := List.getElem?_eq_getElem _
      obtain ⟨G3, n3, d3⟩ := wk.yld i G2 H2 x H3 _ s2 F2.gh (sB2.tr F2.bh) e1 hy
      have F3 := F2.new n3
      rw [List.drop_eq_getElem_cons hlt] at g3
      obtain ⟨ρ3, e3, g4⟩ := lc2L_step g3
      have ds3 := dps_up n3.gg ds
      refine ⟨_, _, G3, ρ2, _, ρ3, F3, d3, e3, fun σ' F' hb => ⟨wipe_but hb hT, ?_⟩⟩
      have wb := wipe_but hb hT
      refine ⟨_, _, G3, ρ3, F', g4.bind.imp (fun b ρ4 g5 G5 H5 s5 F5 => ?_) fun _ _ _ z => z.elim⟩
      cases b with
      | false =>
        rw [if_neg Bool.false_ne_true] at g5 ⊢
        refine ⟨items.length - (i + 1), by omega, by omega, rfl, G5, _, acc, accd, (s2.tr n3.gg).tr s5, ?_, dps_up s5 ds3, g5⟩
        rw [← wb]
        exact F5.wipe hA
      | true =>
        rw [if_pos rfl] at g5 ⊢
        refine ⟨_, _, G5, ρ4, F5, g5.bind.imp (fun il ρ5 g6 J1 G6 H6 B6 A6 s6 F6 bk6 sB6 wk6 => ?_) fun _ _ _ z => z.elim⟩
        obtain ⟨items1, l1⟩ := il
        cases l1 with
        | some _ => exact g6.elim
        | none =>
        obtain ⟨eB, eA⟩ := bk6.2 rfl
        have F6 : FR X.K B6 A6 G6 H6 σ' ρ5 := F6
        have wk6 : WkA X.K J1 G6 B6 A6 items1 := wk6
        rw [eA] at F6 wk6
        rw [eB] at F6 wk6
        have wk6 : Wk X.K J1 G6 B' items1 := wk6 B' fun i a p hi => (upd_ne (hNe i a p hi)).symm
        have ds6 := dps_up (s5.tr s6) ds3
        have sG6 := ((s2.tr n3.gg).tr s5).tr s6
        have hA1 : ∀ i ∈ vs1, A' i = none := fun i h => hA i (hv i h)
        refine ⟨fun j k H7 => j ≤ items1.length ∧ k = items1.length - j ∧ ∃ G7 ρ7 acc7 accd7, Sub G6 G7 ∧ FR X.K (upd B' D (.lst acc7)) A' G7 H7 (L2.wipe σ' vs1) ρ7 ∧ DpAll X.K G7 acc7 accd7 ∧
          Fin (fun ys ρ4 => Fin (fun ys ρ2 => FinV ⟨X.K, B, A, σ, W, cA⟩ G Q (.ok (.o (.lst ys)) (unlock (restore ρ1 ρ2 vs) l))) (fun _ _ _ => False) (lc2L vs T.to (evConds U C xc) vs1 (evSrc U C xs1) T1.to (evConds U C xc1) (fun ρ => (evE U C xe ρ).bind fun v ρ' => fz ρ' v) (items.drop (i + 1)) ys (wipeR ρ4 vs))) (fun _ _ _ => False)
            (lcL vs1 T1.to (evConds U C xc1) (fun ρ => (evE U C xe ρ).bind fun v ρ' => fz ρ' v) (items1.drop j) accd7 ρ7), ⟨_, Nat.zero_le _, rfl, G6, _, acc, accd, Sub.rfl, F6.wipe hA1, ds6, g6.bind⟩, ?_⟩
        rintro j k H7 ⟨hj, rfl, G7, ρ7, acc7, accd7, s7, F7, ds7, g7⟩
        rcases Nat.lt_or_ge j items1.length with hlt1 | hge1
        · refine .inr ⟨wk6.go j G7 H7 s7 F7.gh (sB2.tr F7.bh) hlt1, _, fun H' h => h, fun x7 H8 hy7 => ?_⟩
          have e1 : items1[j]? = some (items1[j]'hlt1) := List.getElem?_eq_getElem _
          obtain ⟨G8, n8, d8⟩ := wk6.yld j G7 H7 x7 H8 _ s7 F7.gh (sB2.tr F7.bh) e1 hy7
          have F8 := F7.new n8
          rw [List.drop_eq_getElem_cons hlt1] at g7
          obtain ⟨ρ8, e8, g8⟩ := lcL_step g7
          have ds8 := dps_up n8.gg ds7
          refine ⟨_, _, G8, ρ7, _, ρ8, F8, d8, e8, fun σ8 F' hb1 => ⟨wipe_but hb1 hT1, ?_⟩⟩
          have wb1 := wipe_but hb1 hT1
          refine ⟨_, _, G8, ρ8, F', g8.bind.imp (fun b ρ9 g9 G9 H9 s9 F9 => ?_) fun _ _ _ z => z.elim⟩
          cases b with
          | false =>
            rw [if_neg Bool.false_ne_true] at g9 ⊢
            refine ⟨items1.length - (j + 1), by omega, by omega, rfl, G9, _, acc7, accd7, (s7.tr n8.gg).tr s9, ?_, dps_up s9 ds8, g9⟩
            rw [← wb1]
            exact F9.wipe hA1
          | true =>
            rw [if_pos rfl] at g9 ⊢
            rw [bind_assoc'] at g9
            refine ⟨_, _, G9, ρ9, F9, g9.bind.imp (fun u ρa ga v Ga Ha sa Fa ra => ?_) fun _ _ _ z => z.elim⟩
            obtain ⟨y, ρb, Gb, sb, Fb, db, gb⟩ := frozen2 (Γ := ⟨X.K, upd B' D (.lst acc7), A', σ8, W0, cA⟩) ga Fa ra
            split at gb
            · rename_i hlen
              refine ⟨acc7, Fb.bh _ _ upd_same, by rw [dps_len ds8]; exact hlen, items1.length - (j + 1), by omega, by omega, rfl, Gb, wipeR ρb vs1, acc7 ++ [v], accd7 ++ [y], (((s7.tr n8.gg).tr s9).tr sa).tr sb, ?_, dps_app (dps_up ((s9.tr sa).tr sb) ds8) (dps_one db), ?_⟩
              · rw [← wb1]
                exact (Fb.swap hNe).wipe hA1
              · exact gb
            · exact gb.elim
        · have hje : j = items1.length := by omega
          subst hje
          rw [List.drop_length] at g7
          refine .inl ⟨wk6.stop G7 H7 s7 F7.gh (sB2.tr F7.bh), items.length - (i + 1), by omega, by omega, rfl, G7, wipeR ρ7 vs, acc7, accd7, sG6.tr s7, ?_, ds7, g7⟩
          have := F7.wipe hA
          rw [ww, wb] at this
          exact this
    · have he : i = items.length := by omega
      subst he
      rw [List.drop_length] at g3
      refine .inl ⟨wk.stop G2 H2 s2 F2.gh (sB2.tr F2.bh), ?_⟩
      have hl : ∀ i ∈ vs, get (lock ρ1 l) i = get ρ1 i := fun i hi => lock_free (hfree i hi)
      have F4 := F2.unwipe F1 s2 (fun i hi => by
        have := hfree i hi
        unfold free at this ⊢
        rw [hl i hi]; exact this)
      rw [rest_congr hl] at F4
      have F5 := bk.1 _ _ _ _ (F4.less hB' hNe)
      have hGD : G2 D = none := by
        cases q : G2 D with
        | none => rfl
        | some u => have := F4.gb D u q; rw [upd_same] at this; cases this
      refine g3 (.ref D) G2 H2 (s1.tr s2) F5 ⟨D, rfl, hGD, none_of_sub sB hB', ⟨acc, F4.bh _ _ upd_same, ds⟩, fun i p c' e z => ?_⟩
      obtain ⟨l', e'⟩ := unlock_own e
      cases l' with
      | false =>
        obtain ⟨a, k1, _, k3, _⟩ := F4.own i p c' e'
        rw [k1] at z; cases z
        rw [upd_same] at k3; cases k3
      | true =>
        obtain ⟨a, _, _, k1, _⟩ := F4.lck i p c' e'
        obtain ⟨b, hb⟩ := F4.fixd i p true c' e' (by simp)
        obtain ⟨m1, _⟩ := F4.fix i b p hb
        rw [m1] at z; cases z
        exact hNe i _ p hb rfl
  · exact g1.elim
end
end Ev

set_option Elab.async false
set_option linter.all false
set_option maxRecDepth 100000
/-! The keys of a dict, walked: the dict is taken out of the frame while the comprehension runs. -/
namespace Ev
open PySem PySem.Spec PyProof.Rows L2
def outA (A : Fix) (i : Nat) : Fix := fun j => if j = i then none else A j
section
variable {K : Frg} {B G H : Hp} {A : Fix} {σ : L2.St} {ρ : Rho}
theorem dct_atoms {a : Addr} {u : HO} {kvs : List (PyData × PyData)} (d : DctO K G a u kvs) (h : (kvs.all fun p => atomB p.1) = true) : ∃ es : List (L2.Key × V), u = .dK es ∧ Paired (fun (e : L2.Key × V) (p : PyData × PyData) => p.1 = keyD e.1 ∧ Dp K G e.2 p.2) es kvs := by
  rcases d with ⟨es, rfl, q⟩ | ⟨xs, rfl, hn, q⟩
  · exact ⟨es, rfl, q⟩
  · exfalso
    cases q with
    | nil => exact hn rfl
    | cons f t =>
      simp only [List.all_cons, Bool.and_eq_true] at h
      exact atom_not_tup h.1 f.2.1
structure Taken (K : Frg) (B : Hp) (A : Fix) (G : Hp) (σ : L2.St) (i : Nat) (p : Bool) (kvs : List (PyData × PyData)) (a : Addr) (u : HO) : Prop where
  at_ : σ[i]? = some (some (.ref a))
  ga : G a = none
  ba : B a = none
  dc : DctO K G a u kvs
  pt : p = true → A i = some (a, true)
  pf : p = false → A i = none
  one : ∀ j q, A j = some (a, q) → j = i
theorem FR.out (F : FR K B A G H σ ρ) {i : Nat} {p : Bool} {kvs : List (PyData × PyData)} (e : get ρ i = .o p false (.dct kvs)) :
    ∃ a u, H a = some u ∧ Taken K B A G σ i p kvs a u ∧ ∀ od, FR K (upd B a (.frz od u)) (outA A i) G (upd H a (.frz od u)) σ (ρ.set i .no) := by
  obtain ⟨a, k1, k2, k3, u, k4, k5⟩ := F.own i p _ e
  have hl : i < ρ.length := get_lt (by rw [e]; simp)
  have other : ∀ {j q c b}, j ≠ i → get ρ j = .o q false c → σ[j]? = some (some (.ref b)) → b ≠ a := fun {j q c b} hj z w n => hj (F.inj j i q c p _ _ z e w (by rw [k1, n]))
  have oneA : ∀ j q, A j = some (a, q) → j = i := fun j q z => by
    obtain ⟨m1, l, c, m2, m3⟩ := F.fix j a q z
    cases l with
    | false => exact F.inj j i q c p _ _ m2 e m1 k1
    | true =>
      obtain ⟨b, _, _, n1, _, n2, _⟩ := F.lck j q c m2
      rw [m1] at n1; cases n1
      rw [k3] at n2; cases n2
  have pA : p = true → A i = some (a, true) := fun hp => by
    subst hp
    obtain ⟨b, hb⟩ := F.fixd i true false _ e rfl
    obtain ⟨m1, _⟩ := F.fix i b true hb
    rw [k1] at m1; cases m1; exact hb
  have pA' : p = false → A i = none := fun hp => by
    subst hp
    cases q : A i with
    | none => rfl
    | some z =>
      obtain ⟨b, r⟩ := z
      obtain ⟨_, l, c, m2, m3⟩ := F.fix i b r q
      rw [e] at m2; cases m2; cases m3
  refine ⟨a, u, k4, ⟨k1, k2, k3, k5, pA, pA', oneA⟩, fun od => ?_⟩
  have back : ∀ {j : Nat} {x : Vr}, get (ρ.set i .no) j = x → x ≠ .no → j ≠ i ∧ get ρ j = x := fun {j x} z n => by
    by_cases h : j = i
    · subst h; rw [get_set_same hl] at z; exact absurd z.symm n
    · rw [get_set_ne (Ne.symm h)] at z; exact ⟨h, z⟩
  refine ⟨by simp [F.len], fun b o q => ?_, F.bh.upd, fun b o q => ?_, fun j y z => F.dat j y (back z (by simp)).2, fun j q c z => ?_, fun j q c z => ?_, fun j k q c q' c' w e1 e2 => F.inj j k q c q' c' w (back e1 (by simp)).2 (back e2 (by simp)).2, fun j c y z => F.exc j c y (back z (by simp)).2, fun j b q z => ?_, fun j q l c z r => ?_⟩
  · have hb : b ≠ a := fun w => by subst w; rw [k2] at q; cases q
    rw [upd_ne hb]; exact F.gh b o q
  · have hb : b ≠ a := fun w => by subst w; rw [k2] at q; cases q
    rw [upd_ne hb]; exact F.gb b o q
  · obtain ⟨h, z'⟩ := back z (by simp)
    obtain ⟨b, n1, n2, n3, n4⟩ := F.own j q c z'
    have hb := other h z' n1
    refine ⟨b, n1, n2, by rw [upd_ne hb]; exact n3, ?_⟩
    cases c with
    | lst xs => obtain ⟨vs, m1, m2⟩ := n4; exact ⟨vs, by rw [upd_ne hb]; exact m1, m2⟩
    | dct kv => obtain ⟨o, m1, m2⟩ := n4; exact ⟨o, by rw [upd_ne hb]; exact m1, m2⟩
  · obtain ⟨h, z'⟩ := back z (by simp)
    obtain ⟨b, ys, ws, n1, n2, n3, n4⟩ := F.lck j q c z'
    have hb : b ≠ a := fun w => by subst w; rw [k3] at n3; cases n3
    exact ⟨b, ys, ws, n1, n2, by rw [upd_ne hb]; exact n3, n4⟩
  · unfold outA at z
    split at z
    · cases z
    · rename_i h
      obtain ⟨m1, l, c, m2, m3⟩ := F.fix j b q z
      exact ⟨m1, l, c, by rw [get_set_ne (Ne.symm h)]; exact m2, m3⟩
  · obtain ⟨h, z'⟩ := back z (by simp)
    obtain ⟨b, hb⟩ := F.fixd j q l c z' r
    exact ⟨b, by unfold outA; rw [if_neg h]; exact hb⟩
theorem FR.back {G' H' : Hp} {ρ' : Rho} {i : Nat} {p : Bool} {kvs : List (PyData × PyData)} {a : Addr} {u : HO} {od : Obj} (t : Taken K B A G σ i p kvs a u) (s : Sub G G') (F : FR K (upd B a (.frz od u)) (outA A i) G' H' σ ρ') :
    H' a = some (.frz od u) ∧ FR K B A G' (upd H' a u) σ (ρ'.set i (.o p false (.dct kvs))) := by
  have hH : H' a = some (.frz od u) := F.bh _ _ upd_same
  refine ⟨hH, ?_⟩
  have hG : G' a = none := by
    cases q : G' a with
    | none => rfl
    | some o => have := F.gb a o q; rw [upd_same] at this; cases this
  have hl : i < ρ'.length := by
    rw [F.len]
    rcases Nat.lt_or_ge i σ.length with z | z
    · exact z
    · have := t.at_; rw [List.getElem?_eq_none z] at this; cases this
  have sB : Sub B (upd B a (.frz od u)) := Sub.add t.ba
  have nb : ∀ {b}, (upd B a (.frz od u)) b = none → B b = none ∧ b ≠ a := fun {b} q => ⟨none_of_sub sB q, fun w => by subst w; rw [upd_same] at q; cases q⟩
  have no : ∀ {j q l c}, get ρ' j = .o q l c → (σ[j]? = some (some (.ref a))) → False := fun {j q l c} z w => by
    cases l with
    | false =>
      obtain ⟨b, n1, n2, n3, _⟩ := F.own j q c z
      rw [w] at n1; cases n1
      exact (nb n3).2 rfl
    | true =>
      obtain ⟨b, ys, ws, n1, n2, n3, n4⟩ := F.lck j q c z
      rw [w] at n1; cases n1
      rw [upd_same] at n3; cases n3
  refine ⟨by simp [F.len], fun b o q => ?_, fun b o q => ?_, fun b o q => (nb (F.gb b o q)).1, fun j y z => ?_, fun j q c z => ?_, fun j q c z => ?_, fun j k q c q' c' w e1 e2 r1 r2 => ?_, fun j c y z => ?_, fun j b q z => ?_, fun j q l c z r => ?_⟩
  · have hb : b ≠ a := fun w => by subst w; rw [hG] at q; cases q
    rw [upd_ne hb]; exact F.gh b o q
  · have hb : b ≠ a := fun w => by subst w; rw [t.ba] at q; cases q
    rw [upd_ne hb]; exact F.bh b o (sB b o q)
  · have h : j ≠ i := fun w => by subst w; rw [get_set_same hl] at z; cases z
    rw [get_set_ne (Ne.symm h)] at z
    exact F.dat j y z
  · by_cases h : j = i
    · subst h; rw [get_set_same hl] at z; cases z
      exact ⟨a, t.at_, hG, t.ba, u, upd_same, t.dc.up s⟩
    · rw [get_set_ne (Ne.symm h)] at z
      obtain ⟨b, n1, n2, n3, n4⟩ := F.own j q c z
      have hb := (nb n3).2
      refine ⟨b, n1, n2, (nb n3).1, ?_⟩
      cases c with
      | lst xs => obtain ⟨vs, m1, m2⟩ := n4; exact ⟨vs, by rw [upd_ne hb]; exact m1, m2⟩
      | dct kv => obtain ⟨o, m1, m2⟩ := n4; exact ⟨o, by rw [upd_ne hb]; exact m1, m2⟩
  · have h : j ≠ i := fun w => by subst w; rw [get_set_same hl] at z; cases z
    rw [get_set_ne (Ne.symm h)] at z
    obtain ⟨b, ys, ws, n1, n2, n3, n4⟩ := F.lck j q c z
    have hb : b ≠ a := fun w => by subst w; rw [upd_same] at n3; cases n3
    rw [upd_ne hb] at n3
    exact ⟨b, ys, ws, n1, n2, n3, n4⟩
  · by_cases h : j = i
    · by_cases h' : k = i
      · rw [h, h']
      · exfalso
        subst h
        rw [t.at_] at r1; cases r1
        rw [get_set_ne (Ne.symm h')] at e2
        exact no e2 r2
    · by_cases h' : k = i
      · exfalso
        subst h'
        rw [t.at_] at r2; cases r2
        rw [get_set_ne (Ne.symm h)] at e1
        exact no e1 r1
      · rw [get_set_ne (Ne.symm h)] at e1
        rw [get_set_ne (Ne.symm h')] at e2
        exact F.inj j k q c q' c' w e1 e2 r1 r2
  · have h : j ≠ i := fun w => by subst w; rw [get_set_same hl] at z; cases z
    rw [get_set_ne (Ne.symm h)] at z
    exact F.exc j c y z
  · by_cases h : j = i
    · subst h
      cases p with
      | false => rw [t.pf rfl] at z; cases z
      | true =>
        rw [t.pt rfl] at z; cases z
        exact ⟨t.at_, false, _, get_set_same hl, rfl⟩
    · obtain ⟨w1, l, c, w2, w3⟩ := F.fix j b q (by unfold outA; rw [if_neg h]; exact z)
      exact ⟨w1, l, c, by rw [get_set_ne (Ne.symm h)]; exact w2, w3⟩
  · by_cases h : j = i
    · subst h; rw [get_set_same hl] at z; cases z
      have hp : p = true := by simpa using r
      subst hp
      exact ⟨a, t.pt rfl⟩
    · rw [get_set_ne (Ne.symm h)] at z
      obtain ⟨b, hb⟩ := F.fixd j q l c z r
      unfold outA at hb
      rw [if_neg h] at hb
      exact ⟨b, hb⟩
theorem wk_keys {a : Addr} {od : Obj} {es : List (L2.Key × V)} {kvs : List (PyData × PyData)} (q : Paired (fun (e : L2.Key × V) (p : PyData × PyData) => p.1 = keyD e.1 ∧ Dp K G e.2 p.2) es kvs) (hB : B a = some (.frz od (.dK es))) : Wk K (Itk a od es) G B (kvs.map (·.1)) := by
  have hl : es.length = (kvs.map (·.1)).length := by rw [List.length_map]; exact Paired.length q
  refine ⟨fun i G' H' h1 h2 h3 hi => ⟨h3 _ _ hB, by omega⟩, fun G' H' h1 h2 h3 => ⟨h3 _ _ hB, by omega⟩, fun i G' H' v H'' y h1 h2 h3 e h => ?_⟩
  obtain ⟨rfl, k, v', e1, rfl⟩ := h
  obtain ⟨z, z1, z2, _⟩ := paired_getL q e1
  refine ⟨G', New.same h2, ?_⟩
  rw [List.getElem?_map, z1] at e
  cases e
  show Dp K G' (kV k) z.1
  rw [z2]
  cases k with
  | inl j => exact .int j
  | inr x => exact .str x
end
section
variable {U : Consts} {C : Calls} {cA : Nat → Addr} {X : Cx}
theorem se_dck {kx vx tg : Expr} {ifs : List Expr} {scope : Scope} {own : List (Str × Nat)} {pos p0 : Pos} {x : Str} {i : Nat} {xc : Exs} {xk xe : Ex} {T : Tg} (hu : X.A.units + 100 < cLine) (hc : X.calm = true) (hN : X.N.Nodup) (ok : BlkOk X.N X.env.scope scope own) (hp : PE X (.Name x p0) (tVar i))
    (hT : ∀ i ∈ T.slots, i ∈ own.map (·.2)) (hg : ∀ (s : Shared) (H : Hp) (D : Addr) (cl : List (Str × Addr)) (fp : List Addr), STg (X.blk s H scope (compEnvC scope cl D X.env) fp) tg T)
    (ht : ∀ (s : Shared) (H : Hp) (D : Addr) (cl : List (Str × Addr)) (fp : List Addr), SCs cA (X.blk s H scope (compEnvC scope cl D X.env) fp) ifs (evConds U C xc))
    (hk : ∀ (s : Shared) (H : Hp) (D : Addr) (cl : List (Str × Addr)) (fp : List Addr), SE U C cA (X.blk s H scope (compEnvC scope cl D X.env) fp) kx xk)
    (he : ∀ (s : Shared) (H : Hp) (D : Addr) (cl : List (Str × Addr)) (fp : List Addr), SE U C cA (X.blk s H scope (compEnvC scope cl D X.env) fp) vx xe) :
    SE U C cA X (.DictComp kx vx [⟨tg, .Name x p0, ifs, 0⟩] scope pos) (.dck (own.map (·.2)) T i xc xk xe) := by
  intro W tk
  let W0 : WX := fun _ _ _ _ => False
  refine ⟨tLockE (tDcX X.K (iKeys (tVar i)) (gCan X.K T) (bCan X.K cA W0 (evConds U C xc)) (tCan X.K cA W0 (evE U C xk)) (tCan X.K cA W0 (evE U C xe)) (own.map (·.2))), pe_lock (pe_dcX hu hc hN (pi_keys hp) ok (fun s H D cl fp => stg_can (hg s H D cl fp)) (fun s H D cl fp => scs_can (ht s H D cl fp) (takesNo _)) (fun s H D cl fp => so_can (hk s H D cl fp) (takesNo _)) (fun s H D cl fp => so_can (he s H D cl fp) (takesNo _)) (fun _ => rfl)), fun B A G H σ ρ Q F g => ?_⟩
  generalize hown : own.map (·.2) = vs at *
  simp only [evE] at g
  split at g
  · rename_i p kvs e
    split at g
    · rename_i hcond
      rw [Bool.and_eq_true] at hcond
      obtain ⟨hfree, hatom⟩ := hcond
      simp only [List.all_eq_true] at hfree
      obtain ⟨a, u, hHa, t, out⟩ := F.out e
      obtain ⟨es, rfl, pr⟩ := dct_atoms t.dc hatom
      have g2 := fin_noExc g.bind
      clear g
      refine ⟨a, .dK es, hHa, True.intro, fun od => ?_⟩
      have F1 := out od
      generalize hr1 : ρ.set i .no = ρ1 at *
      generalize hitems : kvs.map (·.1) = items at *
      have wk : Wk X.K (Itk a od es) G (upd B a (.frz od (.dK es))) items := by rw [← hitems]; exact wk_keys pr upd_same
      have hA : ∀ j ∈ vs, outA A i j = none := fun j hj => by
        cases q : outA A i j with
        | none => rfl
        | some z =>
          obtain ⟨b, c⟩ := z
          obtain ⟨_, l', c', k2, _⟩ := F1.fix j b c q
          have f := hfree j hj
          simp [free, k2] at f
      refine ⟨.ref a, t.at_, a, od, rfl, .inl ⟨es, upd_same, ?_⟩⟩
      refine fun D hD => ⟨fun j m H2 => j ≤ items.length ∧ m = items.length - j ∧ ∃ G2 ρ2 acc accd, Sub G G2 ∧ FR X.K (upd (upd B a (.frz od (.dK es))) D acc) (outA A i) G2 H2 (L2.wipe σ vs) ρ2 ∧ DctO X.K G2 D acc accd ∧
        Fin (fun ys ρ2 => FinV ⟨X.K, B, A, σ, W, cA⟩ G Q (.ok (.o (.dct ys)) ((restore ρ1 ρ2 vs).set i (.o p false (.dct kvs))))) (fun _ _ _ => False) (dcL vs T.to (evConds U C xc) (fun ρ => (evE U C xk ρ).bind fun v ρ' => fz ρ' v) (fun ρ => (evE U C xe ρ).bind fun v ρ' => fz ρ' v) (items.drop j) accd ρ2), ⟨_, Nat.zero_le _, rfl, G, _, .dK [], [], Sub.rfl, (F1.wipe hA).more hD, .inl ⟨[], rfl, .nil⟩, g2⟩, ?_⟩
      have hB' : (upd B a (.frz od (.dK es))) D = none := none_of_sub F1.bh hD
      have hNe := F1.fixNe hD
      rintro j m H2 ⟨hi, rfl, G2, ρ2, acc, accd, s2, F2, ds, g3⟩
      have sB2 : ∀ {o : HO}, Sub (upd B a (.frz od (.dK es))) (upd (upd B a (.frz od (.dK es))) D o) := Sub.add hB'
      rcases Nat.lt_or_ge j items.length with hlt | hge
      · refine .inr ⟨wk.go j G2 H2 s2 F2.gh (sB2.tr F2.bh) hlt, _, fun H' h => h, fun y H3 hy => ?_⟩
        have e1 : items[j]? = some (items[j]'hlt) := List.getElem?_eq_getElem _
        obtain ⟨G3, n3, d3⟩ := wk.yld j G2 H2 y H3 _ s2 F2.gh (sB2.tr F2.bh) e1 hy
        have F3 := F2.new n3
        rw [List.drop_eq_getElem_cons hlt] at g3
        obtain ⟨ρ3, e3, g4⟩ := dcL_step g3
        have ds3 := ds.up n3.gg
        refine ⟨_, _, G3, ρ2, _, ρ3, F3, d3, e3, fun σ' F' hb => ⟨wipe_but hb hT, ?_⟩⟩
        have wb := wipe_but hb hT
        refine ⟨_, _, G3, ρ3, F', g4.bind.imp (fun b ρ4 g5 G5 H5 s5 F5 => ?_) fun _ _ _ z => z.elim⟩
        cases b with
        | false =>
          rw [if_neg Bool.false_ne_true] at g5 ⊢
          refine ⟨items.length - (j + 1), by omega, by omega, rfl, G5, _, acc, accd, (s2.tr n3.gg).tr s5, ?_, ds3.up s5, g5⟩
          rw [← wb]
          exact F5.wipe hA
        | true =>
          rw [if_pos rfl] at g5 ⊢
          rw [bind_assoc'] at g5
          refine ⟨_, _, G5, ρ4, F5, g5.bind.imp (fun u ρ5 g6 v G6 H6 s6 F6 r6 => ?_) fun _ _ _ z => z.elim⟩
          obtain ⟨ky, ρ7, G7, s7, F7, d7, g7⟩ := frozen2 (Γ := ⟨X.K, upd (upd B a (.frz od (.dK es))) D acc, outA A i, σ', W0, cA⟩) g6 F6 r6
          rw [bind_assoc'] at g7
          refine ⟨_, _, G7, ρ7, F7, g7.bind.imp (fun u2 ρ8 g8 v2 G8 H8 s8 F8 r8 => ?_) fun _ _ _ z => z.elim⟩
          obtain ⟨y, ρ9, G9, s9, F9, d9, g9⟩ := frozen2 (Γ := ⟨X.K, upd (upd B a (.frz od (.dK es))) D acc, outA A i, σ', W0, cA⟩) g8 F8 r8
          split at g9
          · rename_i hk2
            have up9 := ((s5.tr s6).tr s7).tr (s8.tr s9)
            refine ⟨G9, D, acc, accd, ky, y, rfl, F9.gh, F9.bh _ _ upd_same, ds3.up up9, dp_up (s8.tr s9) d7, d9, hk2.1, hk2.2, fun ob' d' => ⟨items.length - (j + 1), by omega, by omega, rfl, G9, wipeR ρ9 vs, ob', dPut accd ky y, (s2.tr n3.gg).tr up9, ?_, d', g9⟩⟩
            rw [← wb]
            exact (F9.swap hNe).wipe hA
          · exact g9.elim
      · have he : j = items.length := by omega
        subst he
        rw [List.drop_length] at g3
        refine .inl ⟨wk.stop G2 H2 s2 F2.gh (sB2.tr F2.bh), ?_⟩
        have F4 := F2.unwipe F1 s2 hfree
        have F5 := F4.less hB' hNe
        obtain ⟨hH2, F6⟩ := F5.back t s2
        refine ⟨hH2, ?_⟩
        have hGD : G2 D = none := by
          cases q : G2 D with
          | none => rfl
          | some u => have := F4.gb D u q; rw [upd_same] at this; cases this
        have hDa : D ≠ a := fun w => by rw [w, upd_same] at hB'; cases hB'
        have hBD : B D = none := by rw [upd_ne hDa] at hB'; exact hB'
        refine g3 (.ref D) G2 _ s2 F6 ⟨D, rfl, hGD, hBD, ⟨acc, by rw [upd_ne hDa]; exact F4.bh _ _ upd_same, ds⟩, fun k q c' e z => ?_⟩
        cases hk : decide (k = i) with
        | true =>
          have hk := of_decide_eq_true hk
          subst hk
          rw [t.at_] at z
          cases z
          exact hDa rfl
        | false =>
          have hk := of_decide_eq_false hk
          rw [get_set_ne (Ne.symm hk)] at e
          obtain ⟨b, k1, _, k3, _⟩ := F4.own k q c' e
          rw [k1] at z; cases z
          rw [upd_same] at k3; cases k3
    · exact g.elim
  · exact g.elim
end
end Ev

set_option Elab.async false
set_option linter.all false
set_option maxRecDepth 100000
/-! A call whose first argument is a list that has just been made: it stands in a slot of its own while the call runs. -/
namespace Ev
open PySem PySem.Spec PyProof.Rows L2
section
variable {K : Frg} {B G H : Hp} {A : Fix} {σ : L2.St} {ρ : Rho} {a : Addr} {vs : List V} {xs : List PyData}
theorem get_app {ρ : Rho} {x : Vr} {i : Nat} (h : i < ρ.length) : get (ρ ++ [x]) i = get ρ i := by
  unfold get; rw [List.getElem?_append_left h]
theorem get_end {ρ : Rho} {x : Vr} : get (ρ ++ [x]) ρ.length = x := by
  unfold get; simp
theorem get_past {ρ : Rho} {i : Nat} (h : ρ.length ≤ i) : get ρ i = .no := by
  unfold get; rw [List.getElem?_eq_none h]; rfl
theorem get_take {ρ : Rho} {n i : Nat} (h : i < n) : get (ρ.take n) i = get ρ i := by
  unfold get; rw [List.getElem?_take_of_lt h]
/-- what is told of a list that no slot holds -/
structure Loose (K : Frg) (B : Hp) (G H : Hp) (σ : L2.St) (ρ : Rho) (a : Addr) (vs : List V) (xs : List PyData) : Prop where
  ga : G a = none
  ba : B a = none
  ha : H a = some (.lst vs)
  ds : DpAll K G vs xs
  no : ∀ i p c, get ρ i = .o p false c → σ[i]? ≠ some (some (.ref a))
theorem Loose.fix (t : Loose K B G H σ ρ a vs xs) (F : FR K B A G H σ ρ) : ∀ i b p, A i = some (b, p) → b ≠ a := fun i b p e z => by
  subst z
  obtain ⟨k1, l, c, k2, _⟩ := F.fix i b p e
  cases l with
  | false => exact t.no i p c k2 k1
  | true =>
    obtain ⟨b', _, _, m1, _, m3, _⟩ := F.lck i p c k2
    rw [k1] at m1; cases m1
    rw [t.ba] at m3; cases m3
theorem Loose.base (t : Loose K B G H σ ρ a vs xs) (F : FR K B A G H σ ρ) : FR K (upd B a (.lst vs)) A G H σ ρ := by
  refine ⟨F.len, F.gh, F.bh.at t.ha, fun b o q => ?_, F.dat, fun i p c e => ?_, fun i p c e => ?_, F.inj, F.exc, F.fix, F.fixd⟩
  · have hb : b ≠ a := fun w => by subst w; rw [t.ga] at q; cases q
    rw [upd_ne hb]; exact F.gb b o q
  · obtain ⟨b, k1, k2, k3, k4⟩ := F.own i p c e
    have hb : b ≠ a := fun w => t.no i p c e (by rw [k1, w])
    exact ⟨b, k1, k2, by rw [upd_ne hb]; exact k3, k4⟩
  · obtain ⟨b, ys, ws, k1, k2, k3, k4⟩ := F.lck i p c e
    have hb : b ≠ a := fun w => by subst w; rw [t.ba] at k3; cases k3
    exact ⟨b, ys, ws, k1, k2, by rw [upd_ne hb]; exact k3, k4⟩
/-- a slot more -/
theorem FR.push (F : FR K (upd B a (.lst vs)) A G H σ ρ) (hB : B a = none) (hA : ∀ i b p, A i = some (b, p) → b ≠ a) (ds : DpAll K G vs xs) : FR K B A G H (σ ++ [some (.ref a)]) (ρ ++ [.o false false (.lst xs)]) := by
  have F4 := F.less hB hA
  have hH : H a = some (.lst vs) := F.bh _ _ upd_same
  have hG : G a = none := by
    cases q : G a with
    | none => rfl
    | some o => have := F.gb a o q; rw [upd_same] at this; cases this
  have hl := F.len
  have lt : ∀ {j : Nat} {x : Vr}, get (ρ ++ [.o false false (.lst xs)]) j = x → x ≠ .no → j = ρ.length ∨ (j < ρ.length ∧ get ρ j = x) := fun {j x} e n => by
    rcases Nat.lt_trichotomy j ρ.length with h | h | h
    · rw [get_app h] at e; exact .inr ⟨h, e⟩
    · exact .inl h
    · rw [get_past (by simp; omega)] at e; exact absurd e.symm n
  have sg : ∀ {j : Nat}, j < ρ.length → (σ ++ [some (V.ref a)])[j]? = σ[j]? := fun {j} h => List.getElem?_append_left (by rw [← hl]; exact h)
  have se : (σ ++ [some (V.ref a)])[ρ.length]? = some (some (V.ref a)) := by rw [hl]; simp
  have nown : ∀ {j q c}, get ρ j = .o q false c → σ[j]? ≠ some (some (.ref a)) := fun {j q c} e w => by
    obtain ⟨b, n1, n2, n3, n4⟩ := F.own j q c e
    rw [w] at n1; cases n1
    rw [upd_same] at n3; cases n3
  refine ⟨by simp [hl], F.gh, F4.bh, F4.gb, fun j y e => ?_, fun j q c e => ?_, fun j q c e => ?_, fun j k q c q' c' w e1 e2 r1 r2 => ?_, fun j c y e => ?_, fun j b q e => ?_, fun j q l c e r => ?_⟩
  · rcases lt e (by simp) with rfl | ⟨h, e⟩
    · rw [get_end] at e; cases e
    · rw [sg h]; exact F.dat j y e
  · rcases lt e (by simp) with rfl | ⟨h, e⟩
    · rw [get_end] at e; cases e
      exact ⟨a, se, hG, hB, vs, hH, ds⟩
    · rw [sg h]; exact F4.own j q c e
  · rcases lt e (by simp) with rfl | ⟨h, e⟩
    · rw [get_end] at e; cases e
    · rw [sg h]; exact F4.lck j q c e
  · rcases lt e1 (by simp) with rfl | ⟨h, e1⟩ <;> rcases lt e2 (by simp) with rfl | ⟨h', e2⟩
    · rfl
    · rw [se] at r1; cases r1
      rw [sg h'] at r2
      exact absurd r2 (nown e2)
    · rw [se] at r2; cases r2
      rw [sg h] at r1
      exact absurd r1 (nown e1)
    · rw [sg h] at r1; rw [sg h'] at r2
      exact F.inj j k q c q' c' w e1 e2 r1 r2
  · rcases lt e (by simp) with rfl | ⟨h, e⟩
    · rw [get_end] at e; cases e
    · rw [sg h]; exact F.exc j c y e
  · obtain ⟨k1, l, c, k2, k3⟩ := F.fix j b q e
    have hj : j < ρ.length := get_lt (by rw [k2]; simp)
    exact ⟨by rw [sg hj]; exact k1, l, c, by rw [get_app hj]; exact k2, k3⟩
  · rcases lt e (by simp) with rfl | ⟨h, e⟩
    · rw [get_end] at e; cases e; cases r
    · exact F.fixd j q l c e r
/-- .. and taken away again -/
theorem FR.popS {x : Option V} (F : FR K B A G H (σ ++ [x]) ρ) (hA : A σ.length = none) : FR K B A G H σ (ρ.take σ.length) := by
  have hl : ρ.length = σ.length + 1 := by rw [F.len]; simp
  have lt : ∀ {j : Nat} {y : Vr}, get (ρ.take σ.length) j = y → y ≠ .no → j < σ.length ∧ get ρ j = y := fun {j y} e n => by
    rcases Nat.lt_or_ge j σ.length with h | h
    · rw [get_take h] at e; exact ⟨h, e⟩
    · rw [get_past (by rw [List.length_take]; omega)] at e; exact absurd e.symm n
  have sg : ∀ {j : Nat}, j < σ.length → (σ ++ [x])[j]? = σ[j]? := fun {j} h => List.getElem?_append_left h
  refine ⟨by rw [List.length_take]; omega, F.gh, F.bh, F.gb, fun j y e => ?_, fun j q c e => ?_, fun j q c e => ?_, fun j k q c q' c' w e1 e2 r1 r2 => ?_, fun j c y e => ?_, fun j b q e => ?_, fun j q l c e r => ?_⟩
  · obtain ⟨h, e⟩ := lt e (by simp); rw [← sg h]; exact F.dat j y e
  · obtain ⟨h, e⟩ := lt e (by simp); rw [← sg h]; exact F.own j q c e
  · obtain ⟨h, e⟩ := lt e (by simp); rw [← sg h]; exact F.lck j q c e
  · obtain ⟨h, e1⟩ := lt e1 (by simp); obtain ⟨h', e2⟩ := lt e2 (by simp)
    rw [← sg h] at r1; rw [← sg h'] at r2
    exact F.inj j k q c q' c' w e1 e2 r1 r2
  · obtain ⟨h, e⟩ := lt e (by simp); rw [← sg h]; exact F.exc j c y e
  · obtain ⟨k1, l, c, k2, k3⟩ := F.fix j b q e
    have hj : j < σ.length := by
      rcases Nat.lt_trichotomy j σ.length with h | h | h
      · exact h
      · rw [h, hA] at e; cases e
      · rw [List.getElem?_eq_none (by simp; omega)] at k1; cases k1
    exact ⟨by rw [← sg hj]; exact k1, l, c, by rw [get_take hj]; exact k2, k3⟩
  · obtain ⟨h, e⟩ := lt e (by simp); exact F.fixd j q l c e r
end
section
variable {U : Consts} {C : Calls} {cA : Nat → Addr} {X : Cx} {e : Expr} {es : List Expr} {xa : Ex} {xr : As} {pos p : Pos} {n f : Nat} {fa : Addr} {fd : FuncData} {ps : List Str} {x : Str}
theorem se_callT (F : FOk X.prog X.w X.K X.mg X.base n fa fd ps (SpF X.K cA C ps.length f)) (hr : Room (n + 3) X.A) (hgd : X.A.guards = some []) (hl : ∀ avs, C f avs ≠ .stuck → avs.length = ps.length) (hg : Gl X x) (hm : X.mg x = some (.ref fa)) (hk : PySem.W.keepIn X.K (.ref fa) = true)
    (hb : ∀ (s : Shared) (us : List Value), us.length = ps.length → BindsTo s fd ⟨us, []⟩ (ps.zip us)) (hdb : (x == ("__debug__" : Str)) = false)
    (he : starEach (e :: es) X.env = (false, eval e X.env) :: starEach es X.env) (hpl : (backTo pos (starEach es X.env)).any (·.1) = false) (ih : SE U C cA X e xa) (ihr : SA cA X es (evAs U C xr)) : SE U C cA X (.Call (.Name x p) (e :: es) [] pos) (.callT f xa xr) := by
  intro W tk
  obtain ⟨ta, pa, ha⟩ := ih W tk
  obtain ⟨tr, pr, hr'⟩ := ihr W tk
  refine ⟨_, pe_callX F hr hgd hg hm hk hb tk (pa_cons pa pr he) hdb he hpl, fun B A G H σ ρ Q F0 g => ?_⟩
  simp only [evE] at g
  refine ha B A G H σ ρ _ F0 (g.then fun u ρ1 g1 v G1 H1 s1 F1 r1 => ?_)
  split at g1
  · rename_i xs
    obtain ⟨a, rfl, ga, ba, ⟨vs, hv, ds⟩, no⟩ := r1
    have L1 : Loose X.K B G1 H1 σ ρ1 a vs xs := ⟨ga, ba, hv, ds, no⟩
    have hA := L1.fix F1
    have F2 := L1.base F1
    have g2 : Fin (PA' ⟨X.K, upd B a (.lst vs), A, σ, W, cA⟩ G1 (fun ws H' => SpF X.K cA C ps.length f (.ref a :: ws) H' Q (fun c d H' => W c d σ H'))) (PX ⟨X.K, upd B a (.lst vs), A, σ, W, cA⟩ G1) (evAs U C xr ρ1) := by
      refine g1.bind.imp (fun ags ρ2 g3 ws G3 H3 s3 F3 r3 => ?_) fun c y ρ2 g3 cls d G' H' s' F' ex => ?_
      · have hll : ρ2.length = σ.length := F3.len
        have hAL : A σ.length = none := by
          cases q : A σ.length with
          | none => rfl
          | some z =>
            obtain ⟨k1, _⟩ := F3.fix _ z.1 z.2 q
            rw [List.getElem?_eq_none (Nat.le_refl _)] at k1; cases k1
        have F4 := F3.push ba hA (dps_up s3 ds)
        have g4 := fin_noExc g3.bind
        have R : Paired (AgR X.K G3 (σ ++ [some (.ref a)])) (.ref a :: ws) (.io ρ2.length :: ags) := by
          refine .cons (by show (σ ++ [some (V.ref a)])[ρ2.length]? = _; rw [hll]; simp) (pmap (fun w ag q => ?_) r3)
          cases ag with
          | d y => exact q
          | io i =>
            have q : σ[i]? = some (some w) := q
            have hi : i < σ.length := by
              rcases Nat.lt_or_ge i σ.length with z | z
              · exact z
              · rw [List.getElem?_eq_none z] at q; cases q
            show (σ ++ [some (V.ref a)])[i]? = _
            rw [List.getElem?_append_left hi]; exact q
        refine call_sp (Γ := ⟨X.K, B, A, σ ++ [some (.ref a)], fun c d _ H' => W c d σ H', cA⟩) (G0 := G) F4 R hl (s1.tr s3) (g4.imp (fun v ρ3 g5 w G5 H5 s5 F5 r5 => ?_) fun _ _ _ z => z.elim)
        have F6 := FR.popS F5 hAL
        rw [hll] at g5
        cases v with
        | b i => exact g5.elim
        | d y => exact g5 w G5 H5 s5 F6 r5
        | x c y => exact g5 w G5 H5 s5 F6 r5
        | o c =>
          obtain ⟨b, rfl, t1, t2, t3, t4⟩ := r5
          refine g5 (.ref b) G5 H5 s5 F6 ⟨b, rfl, t1, t2, t3, fun i q c' e1 e2 => ?_⟩
          have hi : i < σ.length := by
            rcases Nat.lt_or_ge i σ.length with z | z
            · exact z
            · rw [List.getElem?_eq_none z] at e2; cases e2
          rw [get_take hi] at e1
          exact t4 i q c' e1 (by rw [List.getElem?_append_left hi]; exact e2)
      · exact g3 cls d G' H' (s1.tr s') (F'.less ba hA) ex
    exact hr' (upd B a (.lst vs)) A G1 H1 σ ρ1 _ F2 g2
  · exact g1.elim
end
end Ev

set_option Elab.async false
set_option linter.all false
set_option maxRecDepth 100000
/-! What is asked of a text and its frame. -/
namespace Ev
open PySem PySem.Spec PyProof.Rows L2

structure Sx where
  N : List Str
  sc : Scope
  raw : List (Str × NameKind)
structure Tb where
  dat : List (Str × PyData)
  dic : List (Str × List (Str × PyData))
  fns : List (Str × List Str)
  bls : List Str
  exs : List Nat := []
  kws : List (List (Nat × List Nat)) := []
def Tb.U (T : Tb) : Consts := ⟨T.dat.map (·.2), T.dic.map (·.2)⟩
structure SxOk (S : Sx) (X : Cx) : Prop where
  N : X.N = S.N
  nd : S.N.Nodup
  sc : X.env.scope = S.sc
  fn : ∀ x, S.raw.lookup x = some .cell → X.fn x = true
/-- a def called with names in an order of their own: v.1 values in a row, then the parameters v.2 by name -/
def BindM (fd : FuncData) (ps : List Str) (v : Nat × List Nat) : Prop := ∀ (s : Shared) (us ws : List Value), us.length = v.1 → us.length + ws.length = (List.range v.1 ++ v.2).length → BindsTo s fd ⟨us, (v.2.map fun i => ps.getD i "").zip ws⟩ (ps.zip (reord (List.range v.1 ++ v.2) (us ++ ws)))
def kwOf (T : Tb) (j : Nat) : List (Nat × List Nat) := T.kws.getD j []
def FnX (X : Cx) (C : Calls) (cA : Nat → Addr) (n f : Nat) (x : Str) (ps : List Str) (kw : List (Nat × List Nat)) : Prop :=
  (∃ (fa : Addr) (fd : FuncData), X.mg x = some (.ref fa) ∧ PySem.W.keepIn X.K (.ref fa) = true ∧ FOk X.prog X.w X.K X.mg X.base n fa fd ps (SpF X.K cA C ps.length f) ∧
    (∀ (s : Shared) (us : List Value), us.length = ps.length → BindsTo s fd ⟨us, []⟩ (ps.zip us)) ∧ (∀ (s : Shared) (us : List Value), us.length = ps.length → BindsTo s fd ⟨[], ps.zip us⟩ (ps.zip us)) ∧ ∀ v ∈ kw, BindM fd ps v) ∧
  ∀ avs, C f avs ≠ .stuck → avs.length = ps.length
structure GX (T : Tb) (C : Calls) (cA : Nat → Addr) (n : Nat) (X : Cx) : Prop where
  calm : X.calm = true
  gd : X.A.guards = some []
  room : Room (n + 3) X.A
  bl : ∀ x ∈ T.bls, X.mg x = none
  dat : ∀ (j : Nat) (x : Str) (d : PyData), T.dat[j]? = some (x, d) → ∃ u v, X.mg x = some u ∧ RelV v u ∧ Dp X.K Hp0 v d
  dic : ∀ (j : Nat) (x : Str) (kvs : List (Str × PyData)), T.dic[j]? = some (x, kvs) → ∃ a, X.mg x = some (.ref a) ∧ DicAt X.K X.w a kvs
  fns : ∀ (f : Nat) (x : Str) (ps : List Str), T.fns[f]? = some (x, ps) → FnX X C cA n f x ps (kwOf T f)
  exs : ∀ c ∈ T.exs, ErrAt X.prog X.w X.K X.mg X.base c
  err : ErrsIn X.K T.exs
  hcA : cA = cAof X.K
section
variable {T : Tb} {C : Calls} {cA : Nat → Addr} {n : Nat} {X : Cx}
theorem GX.blk (h : GX T C cA n X) (s : Shared) (H : Hp) (scope : Scope) (env : Env) (fp : List Addr) : GX T C cA n (X.blk s H scope env fp) := ⟨h.calm, h.gd, h.room, h.bl, h.dat, h.dic, h.fns, h.exs, h.err, h.hcA⟩
theorem GX.tr (h : GX T C cA n X) (pn : List (Addr × Obj)) (xe : Value → Shared → Prop) : GX T C cA n (X.tr pn xe) := ⟨h.calm, h.gd, h.room, h.bl, h.dat, h.dic, h.fns, h.exs, h.err, h.hcA⟩
theorem GX.un65 (h : GX T C cA n X) : X.A.units + 65 < cLine := by have := h.room.un; omega
theorem GX.un100 (h : GX T C cA n X) : X.A.units + 100 < cLine := by have := h.room.un; omega
end

def okN (x : Str) : Bool := !(x == ("__debug__" : Str)) && !(x == ("__classdict__" : Str))
def visB (sc : Scope) (x : Str) : Bool := match sc.names.lookup x with
  | some .local => true | some .cell => true | some .free => true | _ => false
def glB (sc : Scope) (x : Str) : Bool := (sc.names.lookup x == some .globalImplicit) && okN x
def slotB (S : Sx) (i : Nat) (x : Str) : Bool := S.N[i]? == some x && visB S.sc x && okN x
def storeB (S : Sx) (i : Nat) (x : Str) : Bool := S.N[i]? == some x && (S.sc.names.lookup x == some .local || (S.sc.names.lookup x == some .cell && S.raw.lookup x == some .cell))
def notStar : Expr → Bool
  | .Starred _ _ => false
  | _ => true
def notSlice : Expr → Bool
  | .Slice _ _ _ _ => false
  | _ => true
def notComp : Expr → Bool
  | .ListComp _ _ _ _ => false
  | .SetComp _ _ _ _ => false
  | .DictComp _ _ _ _ _ => false
  | _ => true
def notSet : Expr → Bool
  | .Set _ _ _ => false
  | _ => true
def notTup : Expr → Bool
  | .Tuple _ _ _ => false
  | _ => true
def litB (x : PyData) (q : Const) : Bool := match x, q with
  | .int i, .int j => i == j
  | .bool i, .bool j => i == j
  | .none, .none => true
  | .str i, .str j => i == j
  | _, _ => false
theorem litB_ok : ∀ {x : PyData} {q : Const}, litB x q = true → match x, q with | .int i, .int j => i = j | .bool i, .bool j => i = j | .none, .none => True | .str i, .str j => i = j | _, _ => False := by
  intro x q h
  cases x <;> cases q <;> first | exact trivial | exact beq_iff_eq.mp h | exact absurd h (by intro z; cases (show false = true from z))
theorem okN_ok {x : Str} (h : okN x = true) : (x == ("__debug__" : Str)) = false ∧ (x == ("__classdict__" : Str)) = false := by
  simp only [okN, Bool.and_eq_true, Bool.not_eq_true'] at h; exact h
section
variable {S : Sx} {X : Cx} {i : Nat} {x : Str}
theorem visB_ok {sc : Scope} (h : visB sc x = true) : Vis sc x := by
  unfold visB at h
  unfold Vis
  split at h <;> simp_all
theorem slotB_ok (s : SxOk S X) (h : slotB S i x = true) : X.N[i]? = some x ∧ Vis X.env.scope x ∧ (x == ("__debug__" : Str)) = false ∧ (x == ("__classdict__" : Str)) = false := by
  simp only [slotB, Bool.and_eq_true, beq_iff_eq] at h
  exact ⟨by rw [s.N]; exact h.1.1, by rw [s.sc]; exact visB_ok h.1.2, okN_ok h.2⟩
theorem glB_ok (s : SxOk S X) (h : glB S.sc x = true) : Gl X x ∧ (x == ("__debug__" : Str)) = false := by
  simp only [glB, Bool.and_eq_true, beq_iff_eq] at h
  refine ⟨?_, (okN_ok h.2).1⟩
  show X.env.scope.names.lookup x = _
  rw [s.sc]; exact h.1
theorem storeB_ok (s : SxOk S X) (h : storeB S i x = true) : X.N[i]? = some x ∧ Loc X.env.scope x ∧ (X.fn x = true ∨ X.env.scope.names.lookup x = some .local) := by
  simp only [storeB, Bool.and_eq_true, Bool.or_eq_true, beq_iff_eq] at h
  obtain ⟨h1, h2⟩ := h
  refine ⟨by rw [s.N]; exact h1, ?_⟩
  rw [s.sc]
  rcases h2 with h2 | ⟨h2, h3⟩
  · exact ⟨.inl h2, .inr h2⟩
  · exact ⟨.inr h2, .inl (s.fn x h3)⟩
end

/-! ### rows of expressions -/
theorem stars_cons {e : Expr} {es : List Expr} {env : Env} (h : notStar e = true) : starEach (e :: es) env = (false, eval e env) :: starEach es env := by
  cases e <;> first | rfl | (cases h; done)
theorem stars_any {pos : Pos} {env : Env} : ∀ {es : List Expr}, es.all notStar = true → (backTo pos (starEach es env)).any (·.1) = false
  | [], _ => rfl
  | e :: es, h => by
    simp only [List.all_cons, Bool.and_eq_true] at h
    rw [stars_cons h.1]
    have ih := stars_any (pos := pos) (env := env) h.2
    unfold backTo at ih ⊢
    simpa using ih
theorem stars_all {pos : Pos} {env : Env} {es : List Expr} (h : es.all notStar = true) : (backTo pos (starEach es env)).all (fun x => !x.1) = true := by
  have := stars_any (pos := pos) (env := env) h
  rw [List.any_eq_false] at this
  rw [List.all_eq_true]
  intro x hx
  have := this x hx
  simpa using this
theorem few_ok {pos : Pos} {env : Env} {e : Expr} {es : List Expr} (h : (e :: es).all notStar = true) (hl : es.length < 28) : ((backTo pos (starEach (e :: es) env)).all (fun x => !x.1) && (backToKw pos (keywordEach [] env)).all (fun x => x.1.isSome)
      && decide ((e :: es).length + ([] : List Keyword).length + (if ([] : List Keyword).isEmpty then 0 else 1) < 30)) = true := by
  rw [stars_all h, Bool.true_and, Bool.and_eq_true]
  exact ⟨rfl, decide_eq_true (by simp; omega)⟩
theorem plainIx {b : Expr} (h : notSlice b = true) : PlainIx b := by
  intro o i
  cases b <;> first | rfl | (cases h; done)
theorem folded_id {e : Expr} {env : Env} (h : notSet e = true) (x : Value) : foldedSetIterable e env x = pure x := by
  cases e <;> first | rfl | (cases h; done)
theorem swaps_no {e : Expr} {t : Option Expr} {l : Nat} {env : Env} (h : notComp e = true) : swapsWith e t l env = pure false := by
  cases e <;> first | rfl | (cases h; done)
theorem kw_names {pos : Pos} {env : Env} {ps : List Str} : ∀ {ks : List Keyword}, ks.map (·.arg) = ps.map some → (backToKw pos (keywordEach ks env)).map (·.1) = ps.map some := by
  intro ks
  induction ks generalizing ps with
  | nil => intro h; simpa [backToKw, keywordEach] using h
  | cons k ks ih =>
    intro h
    obtain ⟨nm, v, p⟩ := k
    cases ps with
    | nil => cases h
    | cons q ps =>
      simp only [List.map_cons, List.cons.injEq] at h
      have := ih h.2
      unfold backToKw at this ⊢
      simp only [keywordEach, List.map_cons, List.cons.injEq]
      exact ⟨h.1, this⟩
theorem all_some {α : Type} {l : List (Option Str × α)} {ps : List Str} (h : l.map (·.1) = ps.map some) : l.all (·.1.isSome) = true ∧ l.filterMap (·.1) = ps ∧ l.any (·.1.isNone) = false := by
  induction l generalizing ps with
  | nil =>
    cases ps with
    | nil => exact ⟨rfl, rfl, rfl⟩
    | cons _ _ => cases h
  | cons a l ih =>
    cases ps with
    | nil => cases h
    | cons q ps =>
      simp only [List.map_cons, List.cons.injEq] at h
      obtain ⟨h1, h2, h3⟩ := ih h.2
      obtain ⟨a1, a2⟩ := a
      simp only at h
      obtain ⟨rfl, _⟩ := h
      exact ⟨by simpa using h1, by simpa using h2, by simpa using h3⟩
inductive Each (P : Expr → Ex → Prop) : List Expr → Exs → Prop
  | nil : Each P [] .nil
  | cons {e : Expr} {x : Ex} {es : List Expr} {xs : Exs} : notStar e = true → P e x → Each P es xs → Each P (e :: es) (.cons x xs)
inductive EachA (P : Expr → Ex → Prop) (R : Nat → Str → Prop) : List Expr → As → Prop
  | nil : EachA P R [] .nil
  | val {e : Expr} {x : Ex} {es : List Expr} {xs : As} : notStar e = true → P e x → EachA P R es xs → EachA P R (e :: es) (.val x xs)
  | io {x : Str} {i : Nat} {p : Pos} {es : List Expr} {xs : As} : R i x → EachA P R es xs → EachA P R (.Name x p :: es) (.io i xs)
theorem Each.ns {P : Expr → Ex → Prop} : ∀ {es : List Expr} {xs : Exs}, Each P es xs → es.all notStar = true
  | _, _, .nil => rfl
  | _, _, .cons h _ t => by simp [h, t.ns]
theorem EachA.ns {P : Expr → Ex → Prop} {R : Nat → Str → Prop} : ∀ {es : List Expr} {xs : As}, EachA P R es xs → es.all notStar = true
  | _, _, .nil => rfl
  | _, _, .val h _ t => by simp [h, t.ns]
  | _, _, .io _ t => by simp [t.ns, notStar]
section
variable {U : Consts} {C : Calls} {cA : Nat → Addr} {X : Cx} {pos : Pos}
def SB (U : Consts) (C : Calls) (cA : Nat → Addr) (X : Cx) (e : Expr) (x : Ex) : Prop := SE U C cA X e x ∧ ST U C cA X e x
def SlotOk (X : Cx) (i : Nat) (x : Str) : Prop := X.N[i]? = some x ∧ Vis X.env.scope x ∧ (x == ("__debug__" : Str)) = false ∧ (x == ("__classdict__" : Str)) = false
theorem Each.sl : ∀ {es : List Expr} {xs : Exs}, Each (SB U C cA X) es xs → SL cA X es (evals U C xs)
  | _, _, .nil => sl_nil
  | _, _, .cons h p t => sl_cons (stars_cons h) p.1 t.sl
theorem Each.sr : ∀ {es : List Expr} {xs : Exs}, Each (SB U C cA X) es xs → SR cA X es (evReads U C xs)
  | _, _, .nil => sr_nil
  | _, _, .cons h p t => sr_cons (stars_cons h) p.1 t.sr
theorem Each.skp : ∀ {es : List Expr} {xs : Exs}, Each (SB U C cA X) es xs → SKp cA X es (keeps U C xs)
  | _, _, .nil => skp_nil
  | _, _, .cons h p t => skp_cons (stars_cons h) p.1 t.skp
theorem EachA.sa : ∀ {es : List Expr} {xs : As}, EachA (SB U C cA X) (SlotOk X) es xs → SA cA X es (evAs U C xs)
  | _, _, .nil => sa_nil
  | _, _, .val h p t => sa_val (stars_cons h) p.1 t.sa
  | _, _, .io p t => sa_io p.1 p.2.1 p.2.2.1 p.2.2.2 (stars_cons rfl) t.sa
theorem sk_io {i : Nat} {x : Str} {nm : Option Str} {ks : List Keyword} {xr : As} {p p' : Pos} (h : SlotOk X i x) (ihr : SK cA X ks (evAs U C xr)) : SK cA X (⟨nm, .Name x p, p'⟩ :: ks) (evAs U C (.io i xr)) := by
  intro W tk
  obtain ⟨tr, pr, hr⟩ := ihr W tk
  refine ⟨_, pk_cons (pe_var h.1 h.2.1 h.2.2.1 h.2.2.2) pr, fun B A G H σ ρ Q F g => ?_⟩
  simp only [evAs] at g
  split at g
  · exact g.elim
  · rename_i q
    obtain ⟨v, hv⟩ := slot_val F (i := i) q
    refine ⟨v, hv, hr B A G H σ ρ _ F (g.then fun ys ρ3 g3 vs G3 H3 s3 F3 ds => ?_)⟩
    exact g3 (v :: vs) G3 H3 s3 F3 (.cons hv ds)
theorem EachA.sk : ∀ {ks : List Keyword} {xs : As}, EachA (SB U C cA X) (SlotOk X) (ks.map (·.value)) xs → SK cA X ks (evAs U C xs)
  | [], xs, h => by
    cases h; exact sk_nil
  | ⟨nm, v, p⟩ :: ks, xs, h => by
    simp only [List.map_cons] at h
    cases h with
    | val h p t => exact sk_val p.1 (EachA.sk t)
    | io p t => exact sk_io p (EachA.sk t)
/-- and, or: a value, a test -/
theorem evAnd_cons {a b : Ex} {r : Exs} {ρ : Rho} : evAnd U C (.cons a (.cons b r)) ρ = (asB (evE U C a ρ)).bind fun t ρ1 => if t then evAnd U C (.cons b r) ρ1 else .ok (.d (.bool false)) ρ1 := by rw [evAnd]
theorem evOr_cons {a b : Ex} {r : Exs} {ρ : Rho} : evOr U C (.cons a (.cons b r)) ρ = (asB (evE U C a ρ)).bind fun t ρ1 => if t then .ok (.d (.bool true)) ρ1 else evOr U C (.cons b r) ρ1 := by rw [evOr]
theorem so_eq {e : Expr} {o o' : Rho → Out EV} (h : SO cA X e o) (q : ∀ ρ, o' ρ = o ρ) : SO cA X e o' := by
  have : o' = o := funext q
  rw [this]; exact h
theorem sw_eq {e : Expr} {o o' : Rho → Out Bool} (h : SW cA X e o) (q : ∀ ρ, o' ρ = o ρ) : SW cA X e o' := by
  have : o' = o := funext q
  rw [this]; exact h
theorem asB_bind {α : Type} {o : Out α} {f : α → Rho → Out EV} : asB (o.bind f) = o.bind fun a ρ => asB (f a ρ) := by cases o <;> rfl
theorem asB_ok {b : Bool} {ρ : Rho} : asB (.ok (.d (.bool b)) ρ) = .ok b ρ := rfl
theorem asB_ite {c : Bool} {a b : Out EV} : asB (if c then a else b) = if c then asB a else asB b := by cases c <;> rfl
theorem Each.andE : ∀ {es : List Expr} {xs : Exs} {e : Expr} {x : Ex}, SB U C cA X e x → Each (SB U C cA X) es xs → SO cA X (.BoolOp .And (e :: es) pos) (evAnd U C (.cons x xs)) ∧ SW cA X (.BoolOp .And (e :: es) pos) fun ρ => asB (evAnd U C (.cons x xs) ρ)
  | _, _, _, _, p, .nil => ⟨so_eq (so_one p.1) fun ρ => by rw [evAnd], sw_eq (sw_and1 p.2) fun ρ => by rw [evAnd]⟩
  | _, _, _, _, p, .cons h q t => by
    obtain ⟨h1, h2⟩ := Each.andE q t
    exact ⟨so_eq (so_and p.1 h1) fun ρ => evAnd_cons, sw_eq (sw_and p.2 h2) fun ρ => by
      rw [evAnd_cons, asB_bind]; congr; funext a ρ; rw [asB_ite]; rfl⟩
theorem Each.orE : ∀ {es : List Expr} {xs : Exs} {e : Expr} {x : Ex}, SB U C cA X e x → Each (SB U C cA X) es xs → SO cA X (.BoolOp .Or (e :: es) pos) (evOr U C (.cons x xs)) ∧ SW cA X (.BoolOp .Or (e :: es) pos) fun ρ => asB (evOr U C (.cons x xs) ρ)
  | _, _, _, _, p, .nil => ⟨so_eq (so_one p.1) fun ρ => by rw [evOr], sw_eq (sw_or1 p.2) fun ρ => by rw [evOr]⟩
  | _, _, _, _, p, .cons h q t => by
    obtain ⟨h1, h2⟩ := Each.orE q t
    exact ⟨so_eq (so_or p.1 h1) fun ρ => evOr_cons, sw_eq (sw_or p.2 h2) fun ρ => by
      rw [evOr_cons, asB_bind]; congr; funext a ρ; rw [asB_ite]; rfl⟩
theorem pt_ifx {c a b : Expr} {tc ta tb : TT} (hc : PT X c tc) (ha : PT X a ta) (hb : PT X b tb) : PT X (.IfExp c a b pos) (fun σ H Q => tc σ H fun k H1 => if k = true then ta σ H1 Q else tb σ H1 Q) :=
  ⟨fun pins s σ H Q I h => PyProof.Rows.isTrue_IfExp (thn (hc.run pins s σ H _ I h) fun k s1 ⟨H1, I1, q⟩ => by
    cases k with
    | true => exact ha.run pins s1 σ H1 Q I1 q
    | false => exact hb.run pins s1 σ H1 Q I1 q)⟩
theorem st_ite {c a b : Expr} {xc xa xb : Ex} (ihc : ST U C cA X c xc) (iha : ST U C cA X a xa) (ihb : ST U C cA X b xb) : ST U C cA X (.IfExp c a b pos) (.ite xc xa xb) := by
  intro W tk
  obtain ⟨tc, pc, hc⟩ := ihc W tk
  obtain ⟨ta, pa, ha⟩ := iha W tk
  obtain ⟨tb, pb, hb⟩ := ihb W tk
  refine ⟨_, pt_ifx pc pa pb, fun B A G H σ ρ Q F g => ?_⟩
  have g' : FinB ⟨X.K, B, A, σ, W, cA⟩ G Q (asB (evE U C (.ite xc xa xb) ρ)) := g
  rw [evE, asB_bind] at g'
  refine hc B A G H σ ρ _ F (g'.then fun u ρ1 g1 G1 H1 s1 F1 => ?_)
  cases u with
  | true => exact ha B A G1 H1 σ ρ1 Q F1 (FinB.up g1 s1)
  | false => exact hb B A G1 H1 σ ρ1 Q F1 (FinB.up g1 s1)
end

/-! ### targets, blocks -/
def tpB (S : Sx) : List Nat → List Expr → Bool
  | [], [] => true
  | i :: is, .Name x _ :: ts => storeB S i x && tpB S is ts
  | _, _ => false
def tgB (S : Sx) (T : Tg) (t : Expr) : Bool :=
  match T, t with
  | .nm i, .Name x _ => storeB S i x
  | .tp is, .Tuple ts _ _ => tpB S is ts
  | _, _ => false
section
variable {S : Sx} {X : Cx}
theorem tpB_ok (s : SxOk S X) : ∀ {is : List Nat} {ts : List Expr}, tpB S is ts = true → STgs X ts is ∧ (assignEach ts X.env).length = ts.length ∧ (assignEach ts X.env).findIdx? (·.1) = none ∧ is.length = ts.length
  | [], [], _ => ⟨stgs_nil, rfl, rfl, rfl⟩
  | [], _ :: _, h => by simp [tpB] at h
  | i :: is, [], h => by simp [tpB] at h
  | i :: is, t :: ts, h => by
    cases t with
    | Name x p =>
      simp only [tpB, Bool.and_eq_true] at h
      obtain ⟨h1, h2, h3⟩ := storeB_ok s h.1
      obtain ⟨k1, k2, k3, k4⟩ := tpB_ok s h.2
      have e : assignEach (.Name x p :: ts) X.env = (false, assign (.Name x p) X.env) :: assignEach ts X.env := rfl
      refine ⟨stgs_cons (e := .Name x p) (by rw [s.N]; exact s.nd) h1 h2 h3 (by rw [e]; rfl) k1, by rw [e]; simp [k2], by rw [e]; simp [List.findIdx?_cons, k3], by simp [k4]⟩
    | _ => simp [tpB] at h
theorem tgB_ok (s : SxOk S X) (hc : X.calm = true) {T : Tg} {t : Expr} (h : tgB S T t = true) : STg X t T := by
  unfold tgB at h
  split at h
  · obtain ⟨h1, h2, h3⟩ := storeB_ok s h
    exact stg_name (by rw [s.N]; exact s.nd) h1 h2 h3
  · obtain ⟨k1, k2, k3, k4⟩ := tpB_ok s h
    exact stg_tup hc k2 k3 k4 k1
  · cases h
end
def relab (sc scope : Scope) : Scope := { scope with names := scope.names.map fun (n, k) => if (k == .free && sc.kind == .function && sc.names.lookup n == some .cell) then (n, .cell) else (n, k) }
def blkB (N : List Str) (sc scope : Scope) (own : List (Str × Nat)) : Bool :=
  (scope.kind == .function) && (scope.names.all fun y => scope.names.lookup y.1 == some y.2) && (own.all fun p => N[p.2]? == some p.1) &&
  (scope.names.all fun y => y.2 != .free || sc.names.lookup y.1 == some .cell || sc.names.lookup y.1 == some .free) &&
  (scope.names.all fun y => !(y.2 == .local || y.2 == .cell) || (own.map (·.1)).contains y.1 || !N.contains y.1)
theorem blkB_ok {N : List Str} {sc scope : Scope} {own : List (Str × Nat)} (h : blkB N sc scope own = true) : BlkOk N sc scope own := by
  simp only [blkB, Bool.and_eq_true, beq_iff_eq, List.all_eq_true] at h
  obtain ⟨⟨⟨⟨h1, h2⟩, h3⟩, h4⟩, h5⟩ := h
  refine ⟨h1, fun y hy => h2 y hy, fun p hp => h3 p hp, fun y hy e => ?_, fun y hy e => ?_⟩
  · have := h4 y hy
    simp only [Bool.or_eq_true, bne_iff_ne, ne_eq, beq_iff_eq] at this
    rcases this with (z | z) | z
    · exact absurd e z
    · exact .inl z
    · exact .inr z
  · have := h5 y hy
    simp only [Bool.or_eq_true, Bool.not_eq_true', List.contains_eq_mem, decide_eq_true_eq, decide_eq_false_iff_not] at this
    rcases this with (z | z) | z
    · rcases e with e | e <;> simp [e] at z
    · exact .inl z
    · exact .inr z
def ownN (N : List Str) (own : List Nat) : List (Str × Nat) := own.filterMap fun i => (N[i]?).map fun x => (x, i)
def Sx.blk (S : Sx) (scope : Scope) : Sx := ⟨S.N, relab S.sc scope, scope.names⟩
theorem SxOk.blk {S : Sx} {X : Cx} (h : SxOk S X) (s : Shared) (H : Hp) (D : Addr) (scope : Scope) (cl : List (Str × Addr)) (fp : List Addr) : SxOk (S.blk scope) (X.blk s H scope (compEnvC scope cl D X.env) fp) :=
  ⟨h.N, h.nd, by show relab X.env.scope scope = relab S.sc scope; rw [h.sc], fun x e => by show (scope.names.lookup x == some .cell) = true; rw [show scope.names.lookup x = some .cell from e]; rfl⟩
end Ev

set_option Elab.async false
set_option linter.all false
set_option maxRecDepth 100000
/-! A text is the term that is said. -/
namespace Ev
open PySem PySem.Spec PyProof.Rows L2

def ofDat (T : Tb) (j : Nat) (x : Str) : Bool := match T.dat[j]? with
  | some p => p.1 == x
  | none => false
def ofDic (T : Tb) (j : Nat) (x : Str) : Bool := match T.dic[j]? with
  | some p => p.1 == x
  | none => false
def ofFn (T : Tb) (j : Nat) (x : Str) : Bool := match T.fns[j]? with
  | some p => p.1 == x
  | none => false
def psOf (T : Tb) (j : Nat) : List Str := match T.fns[j]? with
  | some p => p.2
  | none => []
def ofBlt (T : Tb) (S : Sx) (x : Str) : Bool := glB S.sc x && T.bls.contains x
mutual
def chkE (T : Tb) : Ex → Sx → Expr → Bool
  | .lit x, _, e => match e with
    | .Constant q _ _ => litB x q
    | _ => false
  | .var i, S, e => match e with
    | .Name x _ => slotB S i x
    | _ => false
  | .glob j, S, e => match e with
    | .Name x _ => glB S.sc x && ofDat T j x
    | _ => false
  | .gidx j a, S, e => match e with
    | .Subscript (.Name x _) b _ => glB S.sc x && ofDic T j x && notSlice b && chkE T a S b
    | _ => false
  | .gin neg j a, S, e => match e with
    | .Compare b [op] [.Name x _] _ => (op == (if neg then .NotIn else .In)) && glB S.sc x && ofDic T j x && chkE T a S b
    | _ => false
  | .bin op a b, S, e => match e with
    | .BinOp a' op' b' _ => op' == op && chkE T a S a' && chkE T b S b'
    | _ => false
  | .neg a, S, e => match e with
    | .UnaryOp .USub a' _ => chkE T a S a'
    | _ => false
  | .cmp op a b, S, e => match e with
    | .Compare a' [op'] [b'] _ => op' == op && !behindInMarks op b' && chkE T a S a' && chkE T b S b'
    | _ => false
  | .chain o1 o2 a b c, S, e => match e with
    | .Compare a' [p1, p2] [b', c'] _ => p1 == o1 && p2 == o2 && !lastMarks [o1, o2] [b', c'] && chkE T a S a' && chkE T b S b' && chkE T c S c'
    | _ => false
  | .band a r, S, e => match e with
    | .BoolOp .And (a' :: b' :: es) _ => chkE T a S a' && chkEs T r S (b' :: es)
    | _ => false
  | .bor a r, S, e => match e with
    | .BoolOp .Or (a' :: b' :: es) _ => chkE T a S a' && chkEs T r S (b' :: es)
    | _ => false
  | .lnot a, S, e => match e with
    | .UnaryOp .Not a' _ => chkE T a S a'
    | _ => false
  | .ite c a b, S, e => match e with
    | .IfExp c' a' b' _ => chkE T c S c' && chkE T a S a' && chkE T b S b'
    | _ => false
  | .tup es, S, e => match e with
    | .Tuple es' _ _ => chkEs T es S es'
    | _ => false
  | .lst es, S, e => match e with
    | .List es' _ => chkEs T es S es'
    | _ => false
  | .idx a b, S, e => match e with
    | .Subscript a' b' _ => notSlice b' && chkE T a S a' && chkE T b S b'
    | _ => false
  | .slc a lo hi, S, e => match e with
    | .Subscript a' (.Slice l h none _) _ => chkE T a S a' && chkO T lo S l && chkO T hi S h
    | _ => false
  | .call f as, S, e => match e with
    | .Call (.Name x _) es [] _ => glB S.sc x && ofFn T f x && chkAs T as S es
    | _ => false
  | .callT f a as, S, e => match e with
    | .Call (.Name x _) (e1 :: es) [] _ => glB S.sc x && ofFn T f x && notStar e1 && chkE T a S e1 && chkAs T as S es
    | _ => false
  | .callK f as, S, e => match e with
    | .Call (.Name x _) [] ks _ => glB S.sc x && ofFn T f x && (ks.map (·.arg) == (psOf T f).map some) && chkAs T as S (ks.map (·.value))
    | _ => false
  | .callM f p π as ks, S, e => match e with
    | .Call (.Name x _) es kws _ => glB S.sc x && ofFn T f x && es.length == p && ((kwOf T f).any fun v => v.1 == p && π == List.range p ++ v.2 && (kws.map (·.arg) == (v.2.map fun i => (psOf T f).getD i "").map some)) && π.length == (psOf T f).length &&
        chkAs T as S es && chkAs T ks S (kws.map (·.value))
    | _ => false
  | .bits a, S, e => match e with
    | .Call (.Attribute (.Name y q) m p2) [] [] p3 => m == ("bit_length" : Str) && (p2.endLine == p3.line) && chkE T a S (.Name y q)
    | _ => false
  | .rev a, S, e => match e with
    | .Subscript b (.Slice none none (some (.UnaryOp .USub (.Constant (.int 1) _ _) _)) _) _ => chkE T a S b
    | _ => false
  | .dnew, S, e => match e with
    | .Dict [] [] _ => true
    | _ => false
  | .trg a b, S, e => match e with
    | .Call (.Name x _) [.Call (.Name y _) [a', b'] [] _] [] _ => x == ("tuple" : Str) && y == ("range" : Str) && ofBlt T S "tuple" && ofBlt T S "range" && notStar a' && notStar b' && chkE T a S a' && chkE T b S b'
    | _ => false
  | .mth m a as, S, e => match e with
    | .Call (.Attribute b nm p2) (e1 :: es) [] p3 => nm == m.py && baseOk b && (p2.endLine == p3.line) && decide (es.length < 28) && chkE T a S b && chkEs T as S (e1 :: es)
    | _ => false
  | .blt f as, S, e => match e with
    | .Call (.Name x _) (e1 :: es) [] _ => x == f.py && ofBlt T S x && chkEs T as S (e1 :: es)
    | _ => false
  | .isi t a, S, e => match e with
    | .Call (.Name x _) [e1, .Name y _] [] _ => x == ("isinstance" : Str) && y == (t.name : Str) && ofBlt T S "isinstance" && ofBlt T S t.name && notStar e1 && chkE T a S e1
    | _ => false
  | .isx c a, S, e => match e with
    | .Call (.Name x _) [e1, .Name y _] [] _ => x == ("isinstance" : Str) && ofBlt T S "isinstance" && notStar e1 && chkE T a S e1 && (match c with
      | some c => T.exs.contains c && excNames[c]? == some y && glB S.sc y
      | none => y == ("ValueError" : Str) && ofBlt T S "ValueError")
    | _ => false
  | .xval a, S, e => match e with
    | .Attribute (.Name y q) m _ => m == ("value" : Str) && chkE T a S (.Name y q)
    | _ => false
  | .isN neg a, S, e => match e with
    | .Compare e1 [op] [.Constant .none _ _] _ => op == (if neg then .IsNot else .Is) && chkE T a S e1
    | _ => false
  | .pop i, S, e => match e with
    | .Call (.Attribute (.Name x _) m p2) [] [] p3 => m == ("pop" : Str) && slotB S i x && (p2.endLine == p3.line)
    | _ => false
  | .app i a, S, e => match e with
    | .Call (.Attribute (.Name x _) m p2) [e1] [] p3 => m == ("append" : Str) && slotB S i x && (p2.endLine == p3.line) && notStar e1 && chkE T a S e1
    | _ => false
  | .ext i a, S, e => match e with
    | .Call (.Attribute (.Name x _) m p2) [e1] [] p3 => m == ("extend" : Str) && slotB S i x && (p2.endLine == p3.line) && notStar e1 && chkE T a S e1
    | _ => false
  | .dc own tg s cs k a, S, e => match e with
    | .DictComp kx vx [⟨t, it, ifs, 0⟩] scope _ => ((ownN S.N own).map (·.2) == own) && blkB S.N S.sc scope (ownN S.N own) && tgB (S.blk scope) tg t && tg.slots.all (fun i => own.contains i) && notSet it &&
        chkS T s S t it && chkC T cs (S.blk scope) ifs && chkE T k (S.blk scope) kx && chkE T a (S.blk scope) vx
    | _ => false
  | .dck own tg i cs k a, S, e => match e with
    | .DictComp kx vx [⟨t, .Name x _, ifs, 0⟩] scope _ => ((ownN S.N own).map (·.2) == own) && blkB S.N S.sc scope (ownN S.N own) && tgB (S.blk scope) tg t && tg.slots.all (fun i => own.contains i) && slotB S i x &&
        chkC T cs (S.blk scope) ifs && chkE T k (S.blk scope) kx && chkE T a (S.blk scope) vx
    | _ => false
  | .lc2 own tg s cs own1 tg1 s1 cs1 a, S, e => match e with
    | .ListComp el [⟨t, it, ifs, 0⟩, ⟨t1, it1, ifs1, 0⟩] scope _ => ((ownN S.N own).map (·.2) == own) && blkB S.N S.sc scope (ownN S.N own) && tgB (S.blk scope) tg t && tg.slots.all (fun i => own.contains i) && notSet it &&
        chkS T s S t it && chkC T cs (S.blk scope) ifs && chkE T a (S.blk scope) el && (tgB (S.blk scope) tg1 t1 && tg1.slots.all (fun i => own1.contains i) && own1.all (fun i => own.contains i) && notSet it1 && chkS T s1 (S.blk scope) t1 it1 && chkC T cs1 (S.blk scope) ifs1)
    | _ => false
  | .lc own tg s cs a, S, e => match e with
    | .ListComp el [⟨t, it, ifs, 0⟩] scope _ => ((ownN S.N own).map (·.2) == own) && blkB S.N S.sc scope (ownN S.N own) && tgB (S.blk scope) tg t && tg.slots.all (fun i => own.contains i) && notSet it &&
        chkS T s S t it && chkC T cs (S.blk scope) ifs && chkE T a (S.blk scope) el
    | _ => false
def chkEs (T : Tb) : Exs → Sx → List Expr → Bool
  | .nil, _, es => es.isEmpty
  | .cons x xs, S, es => match es with
    | e :: es => notStar e && chkE T x S e && chkEs T xs S es
    | [] => false
def chkAs (T : Tb) : As → Sx → List Expr → Bool
  | .nil, _, es => es.isEmpty
  | .val x xs, S, es => match es with
    | e :: es => notStar e && chkE T x S e && chkAs T xs S es
    | [] => false
  | .io i xs, S, es => match es with
    | .Name x _ :: es => slotB S i x && chkAs T xs S es
    | _ => false
def chkO (T : Tb) : Exs → Sx → Option Expr → Bool
  | .nil, _, o => o.isNone
  | .cons x xs, S, o => match xs, o with
    | .nil, some e => chkE T x S e
    | _, _ => false
def chkC (T : Tb) : Exs → Sx → List Expr → Bool
  | .nil, _, es => es.isEmpty
  | .cons x xs, S, es => match xs, es with
    | .nil, [e] => chkE T x S e
    | _, _ => false
def chkS (T : Tb) : Src → Sx → Expr → Expr → Bool
  | .ev x, S, _, e => chkE T x S e
  | .rng1 a, S, _, e => match e with
    | .Call (.Name x _) [a'] [] _ => x == ("range" : Str) && ofBlt T S "range" && notStar a' && chkE T a S a'
    | _ => false
  | .rng2 a b, S, _, e => match e with
    | .Call (.Name x _) [a', b'] [] _ => x == ("range" : Str) && ofBlt T S "range" && notStar a' && notStar b' && chkE T a S a' && chkE T b S b'
    | _ => false
  | .enum a, S, t, e => !notTup t && match e with
    | .Call (.Name x _) [a'] [] _ => x == ("enumerate" : Str) && ofBlt T S "enumerate" && notStar a' && chkE T a S a'
    | _ => false
  | .zip a b, S, t, e => !notTup t && match e with
    | .Call (.Name x _) [a', b'] [] _ => x == ("zip" : Str) && ofBlt T S "zip" && notStar a' && notStar b' && chkE T a S a' && chkE T b S b'
    | _ => false
end

section
variable {T : Tb} {C : Calls} {cA : Nat → Addr} {n : Nat}
theorem ofBlt_ok {X : Cx} {S : Sx} {x : Str} (g : GX T C cA n X) (s : SxOk S X) (h : ofBlt T S x = true) : Gl X x ∧ X.mg x = none ∧ (x == ("__debug__" : Str)) = false := by
  simp only [ofBlt, Bool.and_eq_true, List.contains_eq_mem, decide_eq_true_eq] at h
  obtain ⟨h1, h2⟩ := glB_ok s h.1
  exact ⟨h1, g.bl _ h.2, h2⟩
theorem ofDat_ok {X : Cx} {j : Nat} {x : Str} (g : GX T C cA n X) (h : ofDat T j x = true) : ∃ d u v, T.U.dat[j]? = some d ∧ X.mg x = some u ∧ RelV v u ∧ Dp X.K Hp0 v d := by
  unfold ofDat at h
  split at h
  · rename_i p e
    obtain ⟨y, d⟩ := p
    simp only [beq_iff_eq] at h
    subst h
    obtain ⟨u, v, h1, h2, h3⟩ := g.dat j _ d e
    exact ⟨d, u, v, by simp [Tb.U, e], h1, h2, h3⟩
  · cases h
theorem ofDic_ok {X : Cx} {j : Nat} {x : Str} (g : GX T C cA n X) (h : ofDic T j x = true) : ∃ kvs a, T.U.dic[j]? = some kvs ∧ X.mg x = some (.ref a) ∧ DicAt X.K X.w a kvs := by
  unfold ofDic at h
  split at h
  · rename_i p e
    obtain ⟨y, d⟩ := p
    simp only [beq_iff_eq] at h
    subst h
    obtain ⟨a, h1, h2⟩ := g.dic j _ d e
    exact ⟨d, a, by simp [Tb.U, e], h1, h2⟩
  · cases h
theorem ofFn_ok {X : Cx} {j : Nat} {x : Str} (g : GX T C cA n X) (h : ofFn T j x = true) : FnX X C cA n j x (psOf T j) (kwOf T j) := by
  unfold ofFn at h
  split at h
  · rename_i p e
    obtain ⟨y, d⟩ := p
    simp only [beq_iff_eq] at h
    subst h
    have := g.fns j _ d e
    simpa [psOf, e] using this
  · cases h
theorem starIs1 {e : Expr} {es : List Expr} {env : Env} (h : notStar e = true) : starEach [e] env = [(false, eval e env)] := stars_cons h
theorem starIs2 {a b : Expr} {env : Env} (h : notStar a = true) (h2 : notStar b = true) : starEach [a, b] env = [(false, eval a env), (false, eval b env)] := by rw [stars_cons h, stars_cons h2]; rfl
theorem few {e : Expr} {p3 : Pos} {env : Env} (h : notStar e = true) : ((backTo p3 (starEach [e] env)).all (fun x => !x.1) && (backToKw p3 (keywordEach [] env)).all (fun x => x.1.isSome) && decide ([e].length + ([] : List Keyword).length + (if ([] : List Keyword).isEmpty then 0 else 1) < 30)) = true := by
  rw [stars_cons h]; rfl
/-- a value that no test treats in a way of its own -/
theorem sb_of {X : Cx} {e : Expr} {x : Ex} (h : SE T.U C cA X e x) (he : ∀ whole, isTrue e X.env whole = (do let v ← whole; standAt e.pos; holding [v] (truthy v))) : SB T.U C cA X e x := ⟨h, st_of h he⟩

mutual
theorem chkE_ok : ∀ (x : Ex) (S : Sx) (e : Expr), chkE T x S e = true → ∀ {X : Cx}, GX T C cA n X → SxOk S X → SB T.U C cA X e x
  | .lit x, S, e, h, X, g, s => by
    simp only [chkE] at h
    split at h
    · exact sb_of (se_lit (litB_ok h)) fun _ => rfl
    · cases h
  | .var i, S, e, h, X, g, s => by
    simp only [chkE] at h
    split at h
    · obtain ⟨h1, h2, h3, h4⟩ := slotB_ok s h
      exact sb_of (se_var h1 h2 h3 h4) fun _ => rfl
    · cases h
  | .glob j, S, e, h, X, g, s => by
    simp only [chkE] at h
    split at h
    · simp only [Bool.and_eq_true] at h
      obtain ⟨h1, h2⟩ := glB_ok s h.1
      obtain ⟨d, u, v, k1, k2, k3, k4⟩ := ofDat_ok g h.2
      exact sb_of (se_glob h1 k2 k3 k4 k1 h2) fun _ => rfl
    · cases h
  | .gidx j a, S, e, h, X, g, s => by
    simp only [chkE] at h
    split at h
    · simp only [Bool.and_eq_true] at h
      obtain ⟨⟨⟨h1, h2⟩, h3⟩, h4⟩ := h
      obtain ⟨q1, q2⟩ := glB_ok s h1
      obtain ⟨kvs, b, k1, k2, k3⟩ := ofDic_ok g h2
      exact sb_of (se_gidx q1 k2 k3 k1 q2 (plainIx h3) (chkE_ok a S _ h4 g s).1) fun _ => rfl
    · cases h
  | .gin neg j a, S, e, h, X, g, s => by
    simp only [chkE] at h
    split at h
    · simp only [Bool.and_eq_true, beq_iff_eq] at h
      obtain ⟨⟨⟨h1, h2⟩, h3⟩, h4⟩ := h
      subst h1
      obtain ⟨q1, q2⟩ := glB_ok s h2
      obtain ⟨kvs, b, k1, k2, k3⟩ := ofDic_ok g h3
      exact se_gin q1 k2 k3 k1 q2 (chkE_ok a S _ h4 g s).1
    · cases h
  | .bin op a b, S, e, h, X, g, s => by
    simp only [chkE] at h
    split at h
    · simp only [Bool.and_eq_true, beq_iff_eq] at h
      obtain ⟨⟨h1, h2⟩, h3⟩ := h
      subst h1
      exact sb_of (se_bin (chkE_ok a S _ h2 g s).1 (chkE_ok b S _ h3 g s).1) fun _ => rfl
    · cases h
  | .neg a, S, e, h, X, g, s => by
    simp only [chkE] at h
    split at h
    · exact sb_of (se_neg (chkE_ok a S _ h g s).1) fun _ => rfl
    · cases h
  | .cmp op a b, S, e, h, X, g, s => by
    simp only [chkE] at h
    split at h
    · simp only [Bool.and_eq_true, beq_iff_eq, Bool.not_eq_true'] at h
      obtain ⟨⟨⟨h1, h2⟩, h3⟩, h4⟩ := h
      subst h1
      have a1 := (chkE_ok a S _ h3 g s).1
      have b1 := (chkE_ok b S _ h4 g s).1
      exact ⟨se_cmp g.un100 h2 a1 b1, st_cmp g.un100 h2 a1 b1⟩
    · cases h
  | .chain o1 o2 a b c, S, e, h, X, g, s => by
    simp only [chkE] at h
    split at h
    · simp only [Bool.and_eq_true, beq_iff_eq, Bool.not_eq_true'] at h
      obtain ⟨⟨⟨⟨⟨h1, h2⟩, h3⟩, h4⟩, h5⟩, h6⟩ := h
      subst h1 h2
      have a1 := (chkE_ok a S _ h4 g s).1
      have b1 := (chkE_ok b S _ h5 g s).1
      have c1 := (chkE_ok c S _ h6 g s).1
      exact ⟨se_chain g.un65 h3 a1 b1 c1, st_chain g.un65 h3 a1 b1 c1⟩
    · cases h
  | .band a r, S, e, h, X, g, s => by
    simp only [chkE] at h
    split at h
    · simp only [Bool.and_eq_true] at h
      have a1 := chkE_ok a S _ h.1 g s
      have r1 := chkEs_ok r S _ h.2 g s
      cases r1 with
      | cons q1 q2 q3 =>
        obtain ⟨k1, k2⟩ := Each.andE (pos := by assumption) q2 q3
        refine ⟨so_eq (so_and a1.1 k1) fun ρ => by rw [evE], to_of (sw_eq (sw_and a1.2 k2) fun ρ => ?_)⟩
        rw [evE, asB_bind]; congr; funext a ρ; rw [asB_ite]; rfl
    · cases h
  | .bor a r, S, e, h, X, g, s => by
    simp only [chkE] at h
    split at h
    · simp only [Bool.and_eq_true] at h
      have a1 := chkE_ok a S _ h.1 g s
      have r1 := chkEs_ok r S _ h.2 g s
      cases r1 with
      | cons q1 q2 q3 =>
        obtain ⟨k1, k2⟩ := Each.orE (pos := by assumption) q2 q3
        refine ⟨so_eq (so_or a1.1 k1) fun ρ => by rw [evE], to_of (sw_eq (sw_or a1.2 k2) fun ρ => ?_)⟩
        rw [evE, asB_bind]; congr; funext a ρ; rw [asB_ite]; rfl
    · cases h
  | .lnot a, S, e, h, X, g, s => by
    simp only [chkE] at h
    split at h
    · have a1 := chkE_ok a S _ h g s
      exact ⟨se_not a1.1, st_not a1.2⟩
    · cases h
  | .ite c a b, S, e, h, X, g, s => by
    simp only [chkE] at h
    split at h
    · simp only [Bool.and_eq_true] at h
      obtain ⟨⟨h1, h2⟩, h3⟩ := h
      have c1 := chkE_ok c S _ h1 g s
      have a1 := chkE_ok a S _ h2 g s
      have b1 := chkE_ok b S _ h3 g s
      exact ⟨se_ite c1.2 a1.1 b1.1, st_ite c1.2 a1.2 b1.2⟩
    · cases h
  | .tup es, S, e, h, X, g, s => by
    simp only [chkE] at h
    split at h
    · exact sb_of (se_tup (chkEs_ok es S _ h g s).sl) fun _ => rfl
    · cases h
  | .lst es, S, e, h, X, g, s => by
    simp only [chkE] at h
    split at h
    · exact sb_of (se_lst (chkEs_ok es S _ h g s).sl) fun _ => rfl
    · cases h
  | .idx a b, S, e, h, X, g, s => by
    simp only [chkE] at h
    split at h
    · simp only [Bool.and_eq_true] at h
      obtain ⟨⟨h1, h2⟩, h3⟩ := h
      exact sb_of (se_idx g.un100 (chkE_ok a S _ h2 g s).1 (chkE_ok b S _ h3 g s).1 (plainIx h1)) fun _ => rfl
    · cases h
  | .slc a lo hi, S, e, h, X, g, s => by
    simp only [chkE] at h
    split at h
    · simp only [Bool.and_eq_true] at h
      obtain ⟨⟨h1, h2⟩, h3⟩ := h
      exact sb_of (se_slc (chkE_ok a S _ h1 g s).1 (chkO_ok lo S _ h2 g s) (chkO_ok hi S _ h3 g s)) fun _ => rfl
    · cases h
  | .call f as, S, e, h, X, g, s => by
    simp only [chkE] at h
    split at h
    · rename_i x p es pos
      simp only [Bool.and_eq_true] at h
      obtain ⟨⟨h1, h2⟩, h3⟩ := h
      obtain ⟨q1, q2⟩ := glB_ok s h1
      obtain ⟨⟨fa, fd, k1, k2, k3, k4, k5, k7⟩, k6⟩ := ofFn_ok g h2
      have r1 := chkAs_ok as S _ h3 g s
      cases es with
      | nil =>
        cases r1
        exact sb_of (se_call0 k3 g.room g.gd k6 q1 k1 k2 k4 q2) fun _ => rfl
      | cons e1 es =>
        have ns := r1.ns
        simp only [List.all_cons, Bool.and_eq_true] at ns
        exact sb_of (se_call k3 g.room g.gd k6 q1 k1 k2 k4 q2 (stars_cons ns.1) (stars_any ns.2) r1.sa) fun _ => rfl
    · cases h
  | .callT f a as, S, e, h, X, g, s => by
    simp only [chkE] at h
    split at h
    · rename_i x p e1 es pos
      simp only [Bool.and_eq_true] at h
      obtain ⟨⟨⟨⟨h1, h2⟩, h3⟩, h4⟩, h5⟩ := h
      obtain ⟨q1, q2⟩ := glB_ok s h1
      obtain ⟨⟨fa, fd, k1, k2, k3, k4, k5, k7⟩, k6⟩ := ofFn_ok g h2
      have r1 := chkAs_ok as S _ h5 g s
      exact sb_of (se_callT k3 g.room g.gd k6 q1 k1 k2 k4 q2 (stars_cons h3) (stars_any r1.ns) (chkE_ok a S _ h4 g s).1 r1.sa) fun _ => rfl
    · cases h
  | .callK f as, S, e, h, X, g, s => by
    simp only [chkE] at h
    split at h
    · rename_i x p ks pos
      simp only [Bool.and_eq_true, beq_iff_eq] at h
      obtain ⟨⟨⟨h1, h2⟩, h3⟩, h4⟩ := h
      obtain ⟨q1, q2⟩ := glB_ok s h1
      obtain ⟨⟨fa, fd, k1, k2, k3, k4, k5, k7⟩, k6⟩ := ofFn_ok g h2
      have r1 := chkAs_ok as S _ h4 g s
      obtain ⟨m1, m2, m3⟩ := all_some (kw_names (pos := pos) (env := X.env) h3)
      exact sb_of (se_callK k3 g.room g.gd k6 q1 k1 k2 k5 q2 m1 m2 (by rw [m3]; rfl) r1.sk) fun _ => rfl
    · cases h
  | .callM f p π as ks, S, e, h, X, g, s => by
    simp only [chkE] at h
    split at h
    · rename_i x p1 es kws pos
      simp only [Bool.and_eq_true, beq_iff_eq, List.any_eq_true] at h
      obtain ⟨⟨⟨⟨⟨⟨h1, h2⟩, h3⟩, ⟨v, hv, ⟨v1, v2⟩, v3⟩⟩, h5⟩, h6⟩, h7⟩ := h
      obtain ⟨q1, q2⟩ := glB_ok s h1
      obtain ⟨⟨fa, fd, k1, k2, k3, k4, k5, k7⟩, k6⟩ := ofFn_ok g h2
      have r1 := chkAs_ok as S _ h6 g s
      have r2 := chkAs_ok ks S _ h7 g s
      obtain ⟨m1, m2, m3⟩ := all_some (kw_names (pos := pos) (env := X.env) v3)
      have hb := k7 v hv
      obtain ⟨vp, vk⟩ := v
      simp only at v1
      subst v1 v2
      cases es with
      | nil =>
        cases r1
        simp only [List.length_nil] at h3
        subst h3
        exact sb_of (se_callM0 k3 g.room g.gd k6 q1 k1 k2 h5 hb q2 m1 m2 (by rw [m3]; rfl) r2.sk) fun _ => rfl
      | cons e1 es =>
        have ns := r1.ns
        have ns' := ns
        simp only [List.all_cons, Bool.and_eq_true] at ns
        exact sb_of (se_callM k3 g.room g.gd k6 q1 k1 k2 h5 hb q2 m1 m2 (stars_cons ns.1) (by rw [stars_any ns', m3]; rfl) r1.sa r2.sk) fun _ => rfl
    · cases h
  | .bits a, S, e, h, X, g, s => by
    simp only [chkE] at h
    split at h
    · simp only [Bool.and_eq_true, beq_iff_eq] at h
      obtain ⟨⟨h1, h2⟩, h3⟩ := h
      subst h1
      exact sb_of (se_bits rfl (beq_iff_eq.mpr h2) (chkE_ok a S _ h3 g s).1) fun _ => rfl
    · cases h
  | .rev a, S, e, h, X, g, s => by
    simp only [chkE] at h
    split at h
    · exact sb_of (se_rev (chkE_ok a S _ h g s).1) fun _ => rfl
    · cases h
  | .dnew, S, e, h, X, g, s => by
    simp only [chkE] at h
    split at h
    · exact sb_of se_dnew fun _ => rfl
    · cases h
  | .trg a b, S, e, h, X, g, s => by
    simp only [chkE] at h
    split at h
    · simp only [Bool.and_eq_true, beq_iff_eq] at h
      obtain ⟨⟨⟨⟨⟨⟨⟨h1, h2⟩, h3⟩, h4⟩, h5⟩, h6⟩, h7⟩, h8⟩ := h
      subst h1 h2
      obtain ⟨k1, k2, k3⟩ := ofBlt_ok g s h3
      obtain ⟨m1, m2, m3⟩ := ofBlt_ok g s h4
      exact sb_of (se_trg g.calm m1 m2 k1 k2 (stars_cons h5) (stars_cons h6) (stars_any (by simp [h6])) (chkE_ok a S _ h7 g s).1 (chkE_ok b S _ h8 g s).1) fun _ => rfl
    · cases h
  | .mth m a as, S, e, h, X, g, s => by
    simp only [chkE] at h
    split at h
    · simp only [Bool.and_eq_true, beq_iff_eq, decide_eq_true_eq] at h
      obtain ⟨⟨⟨⟨⟨h1, h2⟩, h3⟩, h4⟩, h5⟩, h6⟩ := h
      subst h1
      have r1 := chkEs_ok as S _ h6 g s
      have ns := r1.ns
      have ns' := ns
      simp only [List.all_cons, Bool.and_eq_true] at ns
      exact sb_of (se_mth g.un100 h2 (beq_iff_eq.mpr h3) (few_ok ns' h4) (stars_cons ns.1) (stars_any ns.2) (chkE_ok a S _ h5 g s).1 r1.sr) fun _ => rfl
    · cases h
  | .blt f as, S, e, h, X, g, s => by
    simp only [chkE] at h
    split at h
    · simp only [Bool.and_eq_true, beq_iff_eq] at h
      obtain ⟨⟨h1, h2⟩, h3⟩ := h
      subst h1
      obtain ⟨k1, k2, k3⟩ := ofBlt_ok g s h2
      have r1 := chkEs_ok as S _ h3 g s
      have ns := r1.ns
      simp only [List.all_cons, Bool.and_eq_true] at ns
      exact sb_of (se_blt g.calm g.gd g.un100 k2 k1 (stars_cons ns.1) (stars_any ns.2) r1.sr) fun _ => rfl
    · cases h
  | .isi t a, S, e, h, X, g, s => by
    simp only [chkE] at h
    split at h
    · simp only [Bool.and_eq_true, beq_iff_eq] at h
      obtain ⟨⟨⟨⟨⟨h1, h2⟩, h3⟩, h4⟩, h5⟩, h6⟩ := h
      subst h1 h2
      obtain ⟨k1, k2, k3⟩ := ofBlt_ok g s h3
      obtain ⟨m1, m2, m3⟩ := ofBlt_ok g s h4
      exact sb_of (se_isi k2 k1 m2 m1 (stars_cons h5) (chkE_ok a S _ h6 g s).1) fun _ => rfl
    · cases h
  | .isx c a, S, e, h, X, g, s => by
    simp only [chkE] at h
    split at h
    · rename_i x p1 e1 y p2 p3
      simp only [Bool.and_eq_true, beq_iff_eq] at h
      obtain ⟨⟨⟨⟨h1, h2⟩, h3⟩, h4⟩, h5⟩ := h
      subst h1
      obtain ⟨k1, k2, k3⟩ := ofBlt_ok g s h2
      cases c with
      | none =>
        simp only [Bool.and_eq_true, beq_iff_eq] at h5
        obtain ⟨rfl, h6⟩ := h5
        obtain ⟨m1, m2, m3⟩ := ofBlt_ok g s h6
        exact sb_of (se_isv k2 k1 m1 m2 (stars_cons h3) (fun c' C' q => by rw [cA_of q]; exact g.err.cls c' (g.err.all _ _ q)) (chkE_ok a S _ h4 g s).1) fun _ => rfl
      | some c =>
        simp only [Bool.and_eq_true, beq_iff_eq, List.contains_eq_mem, decide_eq_true_eq] at h5
        obtain ⟨⟨h6, h7⟩, h8⟩ := h5
        obtain ⟨m1, m2⟩ := glB_ok s h8
        obtain ⟨nm, q1, q2, q3⟩ := (g.exs c h6).nm
        rw [h7] at q1; cases q1
        exact sb_of (se_isx k2 k1 m1 q2 m2 (stars_cons h3) (g.exs c h6).cls (fun c' C' q => by
          have hc' := g.err.all _ _ q
          rw [cA_of q]
          exact ⟨g.err.cls c' hc', (g.err.sub c h6 c' hc').2⟩) (chkE_ok a S _ h4 g s).1) fun _ => rfl
    · cases h
  | .xval a, S, e, h, X, g, s => by
    simp only [chkE] at h
    split at h
    · simp only [Bool.and_eq_true, beq_iff_eq] at h
      obtain ⟨h1, h2⟩ := h
      subst h1
      exact sb_of (se_xval rfl (fun c' C' q => by rw [cA_of q]; exact g.err.cls c' (g.err.all _ _ q)) (chkE_ok a S _ h2 g s).1) fun _ => rfl
    · cases h
  | .isN neg a, S, e, h, X, g, s => by
    simp only [chkE] at h
    split at h
    · simp only [Bool.and_eq_true, beq_iff_eq] at h
      obtain ⟨h1, h2⟩ := h
      subst h1
      exact se_isN (chkE_ok a S _ h2 g s).1
    · cases h
  | .pop i, S, e, h, X, g, s => by
    simp only [chkE] at h
    split at h
    · simp only [Bool.and_eq_true, beq_iff_eq] at h
      obtain ⟨⟨h1, h2⟩, h3⟩ := h
      subst h1
      obtain ⟨k1, k2, k3, k4⟩ := slotB_ok s h2
      exact sb_of (se_pop k1 k2 k3 k4 (beq_iff_eq.mpr h3)) fun _ => rfl
    · cases h
  | .app i a, S, e, h, X, g, s => by
    simp only [chkE] at h
    split at h
    · simp only [Bool.and_eq_true, beq_iff_eq] at h
      obtain ⟨⟨⟨⟨h1, h2⟩, h3⟩, h4⟩, h5⟩ := h
      subst h1
      obtain ⟨k1, k2, k3, k4⟩ := slotB_ok s h2
      exact sb_of (se_app k1 k2 k3 k4 (beq_iff_eq.mpr h3) (stars_cons h4) (few h4) (chkE_ok a S _ h5 g s).1) fun _ => rfl
    · cases h
  | .ext i a, S, e, h, X, g, s => by
    simp only [chkE] at h
    split at h
    · simp only [Bool.and_eq_true, beq_iff_eq] at h
      obtain ⟨⟨⟨⟨h1, h2⟩, h3⟩, h4⟩, h5⟩ := h
      subst h1
      obtain ⟨k1, k2, k3, k4⟩ := slotB_ok s h2
      exact sb_of (se_ext k1 k2 k3 k4 (beq_iff_eq.mpr h3) (stars_cons h4) (few h4) (chkE_ok a S _ h5 g s).1) fun _ => rfl
    · cases h
  | .dc own tg sr cs k a, S, e, h, X, g, s => by
    simp only [chkE] at h
    split at h
    · rename_i kx vx t it ifs scope pos
      simp only [Bool.and_eq_true, beq_iff_eq] at h
      obtain ⟨⟨⟨⟨⟨⟨⟨⟨h1, h2⟩, h3⟩, h4⟩, h5⟩, h6⟩, h7⟩, h9⟩, h8⟩ := h
      have bo : BlkOk X.N X.env.scope scope (ownN S.N own) := by rw [s.N, s.sc]; exact blkB_ok h2
      have hN : X.N.Nodup := by rw [s.N]; exact s.nd
      have main := se_dc (U := T.U) (C := C) (cA := cA) (X := X) (kx := kx) (vx := vx) (tg := t) (iter := it) (ifs := ifs) (scope := scope) (own := ownN S.N own) (pos := pos) (xs := sr) (xc := cs) (xk := k) (xe := a) (T := tg) g.calm hN bo (folded_id h5)
        (fun i hi => by
          rw [h1]
          simp only [List.all_eq_true, List.contains_eq_mem, decide_eq_true_eq] at h4
          exact h4 i hi)
        (chkS_ok sr S _ _ h6 g s) (fun s' H D cl fp => tgB_ok (s.blk s' H D scope cl fp) (by exact g.calm) h3)
        (fun s' H D cl fp => chkC_ok cs _ _ h7 (g.blk s' H scope _ fp) (s.blk s' H D scope cl fp)) (fun s' H D cl fp => (chkE_ok k _ _ h9 (g.blk s' H scope _ fp) (s.blk s' H D scope cl fp)).1) (fun s' H D cl fp => (chkE_ok a _ _ h8 (g.blk s' H scope _ fp) (s.blk s' H D scope cl fp)).1)
      rw [h1] at main
      refine sb_of (fun W tk => ?_) fun _ => rfl
      obtain ⟨tr, wi, gg, tt, tk', te, e1, p1, p2, p3, p4', p4, p5⟩ := main W tk
      refine ⟨tr, ?_, p5⟩
      have := pe_dcX g.un100 (pos := pos) g.calm hN p1 bo p2 p3 p4' p4 (folded_id h5)
      rw [h1, ← e1] at this
      exact this
    · cases h
  | .dck own tg i cs k a, S, e, h, X, g, s => by
    simp only [chkE] at h
    split at h
    · rename_i kx vx t x p0 ifs scope pos
      simp only [Bool.and_eq_true, beq_iff_eq] at h
      obtain ⟨⟨⟨⟨⟨⟨⟨h1, h2⟩, h3⟩, h4⟩, h5⟩, h7⟩, h9⟩, h8⟩ := h
      have bo : BlkOk X.N X.env.scope scope (ownN S.N own) := by rw [s.N, s.sc]; exact blkB_ok h2
      have hN : X.N.Nodup := by rw [s.N]; exact s.nd
      obtain ⟨q1, q2, q3, q4⟩ := slotB_ok s h5
      have main := se_dck (U := T.U) (C := C) (cA := cA) (X := X) (kx := kx) (vx := vx) (tg := t) (ifs := ifs) (scope := scope) (own := ownN S.N own) (pos := pos) (xc := cs) (xk := k) (xe := a) (T := tg) g.un100 g.calm hN bo (pe_var (pos := p0) q1 q2 q3 q4)
        (fun i hi => by
          rw [h1]
          simp only [List.all_eq_true, List.contains_eq_mem, decide_eq_true_eq] at h4
          exact h4 i hi)
        (fun s' H D cl fp => tgB_ok (s.blk s' H D scope cl fp) (by exact g.calm) h3)
        (fun s' H D cl fp => chkC_ok cs _ _ h7 (g.blk s' H scope _ fp) (s.blk s' H D scope cl fp)) (fun s' H D cl fp => (chkE_ok k _ _ h9 (g.blk s' H scope _ fp) (s.blk s' H D scope cl fp)).1) (fun s' H D cl fp => (chkE_ok a _ _ h8 (g.blk s' H scope _ fp) (s.blk s' H D scope cl fp)).1)
      rw [h1] at main
      exact sb_of main fun _ => rfl
    · cases h
  | .lc2 own tg sr cs own1 tg1 sr1 cs1 a, S, e, h, X, g, s => by
    simp only [chkE] at h
    split at h
    · rename_i el t it ifs t1 it1 ifs1 scope pos
      simp only [Bool.and_eq_true, beq_iff_eq] at h
      obtain ⟨⟨⟨⟨⟨⟨⟨⟨h1, h2⟩, h3⟩, h4⟩, h5⟩, h6⟩, h7⟩, h8⟩, ⟨⟨⟨⟨k1, k2⟩, k3⟩, k4⟩, k5⟩, k6⟩ := h
      have bo : BlkOk X.N X.env.scope scope (ownN S.N own) := by rw [s.N, s.sc]; exact blkB_ok h2
      have hN : X.N.Nodup := by rw [s.N]; exact s.nd
      simp only [List.all_eq_true, List.contains_eq_mem, decide_eq_true_eq] at k2 k3 h4
      have main := se_lc2 (U := T.U) (C := C) (cA := cA) (X := X) (elt := el) (tg := t) (iter := it) (ifs := ifs) (tg1 := t1) (iter1 := it1) (ifs1 := ifs1) (scope := scope) (own := ownN S.N own) (pos := pos) (xs := sr) (xc := cs) (xe := a) (T := tg) (xs1 := sr1) (xc1 := cs1) (T1 := tg1) (vs1 := own1) g.calm hN bo (folded_id h5)
        (fun i hi => by rw [h1]; exact h4 i hi) (fun i hi => k2 i hi) (fun i hi => by rw [h1]; exact k3 i hi)
        (fun s' H D cl fp => chkS_ok sr1 _ _ _ k5 (g.blk s' H scope _ fp) (s.blk s' H D scope cl fp)) (fun s' H D cl fp => tgB_ok (s.blk s' H D scope cl fp) (by exact g.calm) k1)
        (fun s' H D cl fp => chkC_ok cs1 _ _ k6 (g.blk s' H scope _ fp) (s.blk s' H D scope cl fp))
        (chkS_ok sr S _ _ h6 g s) (fun s' H D cl fp => tgB_ok (s.blk s' H D scope cl fp) (by exact g.calm) h3)
        (fun s' H D cl fp => chkC_ok cs _ _ h7 (g.blk s' H scope _ fp) (s.blk s' H D scope cl fp)) (fun s' H D cl fp => (chkE_ok a _ _ h8 (g.blk s' H scope _ fp) (s.blk s' H D scope cl fp)).1)
      rw [h1] at main
      refine sb_of (fun W tk => ?_) fun _ => rfl
      obtain ⟨tr, wi, gg, tt, wi1, gg1, tt1, te, e1, p1, p2, p3, q1, q2, q3, p4, p5⟩ := main W tk
      refine ⟨tr, ?_, p5⟩
      have := pe_lc2 (pos := pos) g.calm hN p1 bo (fun i hi => by rw [h1]; exact k3 i hi) p2 p3 q1 q2 q3 p4 (folded_id h5) (fun env x => folded_id k4 x)
      rw [h1, ← e1] at this
      exact this
    · cases h
  | .lc own tg sr cs a, S, e, h, X, g, s => by
    simp only [chkE] at h
    split at h
    · rename_i el t it ifs scope pos
      simp only [Bool.and_eq_true, beq_iff_eq] at h
      obtain ⟨⟨⟨⟨⟨⟨⟨h1, h2⟩, h3⟩, h4⟩, h5⟩, h6⟩, h7⟩, h8⟩ := h
      have bo : BlkOk X.N X.env.scope scope (ownN S.N own) := by rw [s.N, s.sc]; exact blkB_ok h2
      have hN : X.N.Nodup := by rw [s.N]; exact s.nd
      have main := se_lc (U := T.U) (C := C) (cA := cA) (X := X) (elt := el) (tg := t) (iter := it) (ifs := ifs) (scope := scope) (own := ownN S.N own) (pos := pos) (xs := sr) (xc := cs) (xe := a) (T := tg) g.calm hN bo (folded_id h5)
        (fun i hi => by
          rw [h1]
          simp only [List.all_eq_true, List.contains_eq_mem, decide_eq_true_eq] at h4
          exact h4 i hi)
        (chkS_ok sr S _ _ h6 g s) (fun s' H D cl fp => tgB_ok (s.blk s' H D scope cl fp) (by exact g.calm) h3)
        (fun s' H D cl fp => chkC_ok cs _ _ h7 (g.blk s' H scope _ fp) (s.blk s' H D scope cl fp)) (fun s' H D cl fp => (chkE_ok a _ _ h8 (g.blk s' H scope _ fp) (s.blk s' H D scope cl fp)).1)
      rw [h1] at main
      refine sb_of (fun W tk => ?_) fun _ => rfl
      obtain ⟨tr, wi, gg, tt, te, e1, p1, p2, p3, p4, p5⟩ := main W tk
      refine ⟨tr, ?_, p5⟩
      have := pe_lc (pos := pos) g.calm hN p1 bo p2 p3 p4 (folded_id h5)
      rw [h1, ← e1] at this
      exact this
    · cases h
theorem chkEs_ok : ∀ (x : Exs) (S : Sx) (es : List Expr), chkEs T x S es = true → ∀ {X : Cx}, GX T C cA n X → SxOk S X → Each (SB T.U C cA X) es x
  | .nil, S, es, h, X, g, s => by
    simp only [chkEs] at h
    cases es with
    | nil => exact .nil
    | cons _ _ => cases h
  | .cons x xs, S, es, h, X, g, s => by
    simp only [chkEs] at h
    split at h
    · simp only [Bool.and_eq_true] at h
      exact .cons h.1.1 (chkE_ok x S _ h.1.2 g s) (chkEs_ok xs S _ h.2 g s)
    · cases h
theorem chkAs_ok : ∀ (x : As) (S : Sx) (es : List Expr), chkAs T x S es = true → ∀ {X : Cx}, GX T C cA n X → SxOk S X → EachA (SB T.U C cA X) (SlotOk X) es x
  | .nil, S, es, h, X, g, s => by
    simp only [chkAs] at h
    cases es with
    | nil => exact .nil
    | cons _ _ => cases h
  | .val x xs, S, es, h, X, g, s => by
    simp only [chkAs] at h
    split at h
    · simp only [Bool.and_eq_true] at h
      exact .val h.1.1 (chkE_ok x S _ h.1.2 g s) (chkAs_ok xs S _ h.2 g s)
    · cases h
  | .io i xs, S, es, h, X, g, s => by
    simp only [chkAs] at h
    split at h
    · simp only [Bool.and_eq_true] at h
      exact .io (slotB_ok s h.1) (chkAs_ok xs S _ h.2 g s)
    · cases h
theorem chkO_ok : ∀ (x : Exs) (S : Sx) (o : Option Expr), chkO T x S o = true → ∀ {X : Cx}, GX T C cA n X → SxOk S X → OPart cA X o (evPart T.U C x)
  | .nil, S, o, h, X, g, s => by
    simp only [chkO] at h
    cases o with
    | none => exact op_none
    | some _ => cases h
  | .cons x xs, S, o, h, X, g, s => by
    simp only [chkO] at h
    split at h
    · exact op_some (chkE_ok x S _ h g s).1
    · cases h
theorem chkC_ok : ∀ (x : Exs) (S : Sx) (es : List Expr), chkC T x S es = true → ∀ {X : Cx}, GX T C cA n X → SxOk S X → SCs cA X es (evConds T.U C x)
  | .nil, S, es, h, X, g, s => by
    simp only [chkC] at h
    cases es with
    | nil => exact scs_nil
    | cons _ _ => cases h
  | .cons x xs, S, es, h, X, g, s => by
    simp only [chkC] at h
    split at h
    · exact scs_one (chkE_ok x S _ h g s).2
    · cases h
theorem chkS_ok : ∀ (x : Src) (S : Sx) (t e : Expr), chkS T x S t e = true → ∀ {X : Cx}, GX T C cA n X → SxOk S X → SSrc cA X t e (evSrc T.U C x)
  | .ev x, S, t, e, h, X, g, s => by
    simp only [chkS] at h
    exact ss_ev (chkE_ok x S _ h g s).1
  | .rng1 a, S, t, e, h, X, g, s => by
    simp only [chkS] at h
    split at h
    · simp only [Bool.and_eq_true, beq_iff_eq] at h
      obtain ⟨⟨⟨h1, h2⟩, h3⟩, h4⟩ := h
      subst h1
      obtain ⟨k1, k2, k3⟩ := ofBlt_ok g s h2
      exact ss_rng1 k1 k2 (starIs1 (es := []) h3) (chkE_ok a S _ h4 g s).1
    · cases h
  | .rng2 a b, S, t, e, h, X, g, s => by
    simp only [chkS] at h
    split at h
    · simp only [Bool.and_eq_true, beq_iff_eq] at h
      obtain ⟨⟨⟨⟨⟨h1, h2⟩, h3⟩, h4⟩, h5⟩, h6⟩ := h
      subst h1
      obtain ⟨k1, k2, k3⟩ := ofBlt_ok g s h2
      exact ss_rng2 k1 k2 (starIs2 h3 h4) (starIs1 (es := []) h4) (chkE_ok a S _ h5 g s).1 (chkE_ok b S _ h6 g s).1
    · cases h
  | .enum a, S, t, e, h, X, g, s => by
    simp only [chkS, Bool.and_eq_true] at h
    obtain ⟨h0, h⟩ := h
    split at h
    · simp only [Bool.and_eq_true, beq_iff_eq] at h
      obtain ⟨⟨⟨h1, h2⟩, h3⟩, h4⟩ := h
      subst h1
      obtain ⟨k1, k2, k3⟩ := ofBlt_ok g s h2
      cases t with
      | Tuple ts k tp => exact ss_enum k1 k2 (starIs1 (es := []) h3) (chkE_ok a S _ h4 g s).1
      | _ => cases h0
    · cases h
  | .zip a b, S, t, e, h, X, g, s => by
    simp only [chkS, Bool.and_eq_true] at h
    obtain ⟨h0, h⟩ := h
    split at h
    · simp only [Bool.and_eq_true, beq_iff_eq] at h
      obtain ⟨⟨⟨⟨⟨h1, h2⟩, h3⟩, h4⟩, h5⟩, h6⟩ := h
      subst h1
      obtain ⟨k1, k2, k3⟩ := ofBlt_ok g s h2
      cases t with
      | Tuple ts k tp => exact ss_zip k1 k2 (stars_cons h3) (starIs1 (es := []) h4) (stars_any (es := [_]) (by simp [h4])) (chkE_ok a S _ h5 g s).1 (chkE_ok b S _ h6 g s).1
      | _ => cases h0
    · cases h
end
end
end Ev

set_option Elab.async false
set_option linter.all false
set_option maxRecDepth 100000
/-! Statements of a text; a def of a text; all defs, by levels. -/
namespace Ev
open PySem PySem.Spec PyProof.Rows L2

def parB (S : Sx) (i j : Nat) (x y : Str) (px py : Pos) (a b : Expr) : Bool :=
  S.N[i]? == some x && S.N[j]? == some y && i != j && S.sc.names.lookup x == some .local && S.sc.names.lookup y == some .local && S.sc.kind == .function && px.line == py.line && x != y &&
  notStar a && notStar b && !([a, b].all (foldedForSure 8)) && !([a, b].all (constantsAlone 8))
theorem any_not {f g : Expr → Bool} {a b : Expr} (h : ∀ e, g e = true → f e = false) (ha : g a = true) (hb : g b = true) : [a, b].any f = false := by simp [h a ha, h b hb]
theorem parB_ok {S : Sx} {X : Cx} {i j : Nat} {x y : Str} {px py : Pos} {a b : Expr} {kt k2 : Nat} {pt pt2 : Pos} (s : SxOk S X) (h : parB S i j x y px py a b = true) :
    X.N[i]? = some x ∧ X.N[j]? = some y ∧ i ≠ j ∧ X.env.scope.names.lookup x = some .local ∧ X.env.scope.names.lookup y = some .local ∧ notStar a = true ∧ notStar b = true ∧
      swappedStores [.Tuple [.Name x px, .Name y py] kt pt] (.Tuple [a, b] k2 pt2) X.env = pure (some [x, y]) := by
  simp only [parB, Bool.and_eq_true, beq_iff_eq, bne_iff_ne, ne_eq, Bool.not_eq_true'] at h
  obtain ⟨⟨⟨⟨⟨⟨⟨⟨⟨⟨⟨h1, h2⟩, h3⟩, h4⟩, h5⟩, h6⟩, h7⟩, h8⟩, h9⟩, h10⟩, h11⟩, h12⟩ := h
  refine ⟨by rw [s.N]; exact h1, by rw [s.N]; exact h2, h3, by rw [s.sc]; exact h4, by rw [s.sc]; exact h5, h9, h10, ?_⟩
  have k1 : X.env.kindOf x = some .local := by show X.env.scope.names.lookup x = _; rw [s.sc]; exact h4
  have k2 : X.env.kindOf y = some .local := by show X.env.scope.names.lookup y = _; rw [s.sc]; exact h5
  have k3 : X.env.blockKind = .function := by unfold Env.blockKind; rw [s.sc, h6]; rfl
  unfold swappedStores
  simp only []
  rw [any_not (g := notStar) (fun e he => by cases e <;> first | rfl | cases he) h9 h10]
  simp only [k3, List.length_cons, List.length_nil, List.head?_cons, Option.map_some, Option.getD_some, Expr.pos, List.filterMap_cons, List.filterMap_nil, k1, k2, h7, beq_self_eq_true, Bool.and_self, if_true, h11, h12]
  have e2 : ([x, y] : List Str).eraseDups = [x, y] := by
    have : (y == x) = false := by simpa [beq_eq_false_iff_ne] using fun z : y = x => h8 z.symm
    simp [List.eraseDups_cons, this]
  simp [e2]

def par3B (S : Sx) (i j l : Nat) (x y z : Str) (px py pz : Pos) (a b c : Expr) : Bool :=
  S.N[i]? == some x && S.N[j]? == some y && S.N[l]? == some z && i != j && i != l && j != l && S.sc.names.lookup x == some .local && S.sc.names.lookup y == some .local && S.sc.names.lookup z == some .local && S.sc.kind == .function && px.line == py.line && px.line == pz.line && x != y && x != z && y != z &&
  notStar a && notStar b && notStar c && !([a, b, c].all (foldedForSure 8)) && !([a, b, c].all (constantsAlone 8))
theorem any3_not {f g : Expr → Bool} {a b c : Expr} (h : ∀ e, g e = true → f e = false) (ha : g a = true) (hb : g b = true) (hc : g c = true) : [a, b, c].any f = false := by simp [h a ha, h b hb, h c hc]
theorem par3B_ok {S : Sx} {X : Cx} {i j l : Nat} {x y z : Str} {px py pz : Pos} {a b c : Expr} {kt k2 : Nat} {pt pt2 : Pos} (s : SxOk S X) (h : par3B S i j l x y z px py pz a b c = true) :
    X.N[i]? = some x ∧ X.N[j]? = some y ∧ X.N[l]? = some z ∧ i ≠ j ∧ i ≠ l ∧ j ≠ l ∧ X.env.scope.names.lookup x = some .local ∧ X.env.scope.names.lookup y = some .local ∧ X.env.scope.names.lookup z = some .local ∧
      swappedStores [.Tuple [.Name x px, .Name y py, .Name z pz] kt pt] (.Tuple [a, b, c] k2 pt2) X.env = pure (some [x, y, z]) := by
  simp only [par3B, Bool.and_eq_true, beq_iff_eq, bne_iff_ne, ne_eq, Bool.not_eq_true'] at h
  obtain ⟨⟨⟨⟨⟨⟨⟨⟨⟨⟨⟨⟨⟨⟨⟨⟨⟨⟨⟨h1, h2⟩, h3⟩, h4⟩, h5⟩, h6⟩, h7⟩, h8⟩, h9⟩, h10⟩, h11⟩, h12⟩, h13⟩, h14⟩, h15⟩, h16⟩, h17⟩, h18⟩, h19⟩, h20⟩ := h
  refine ⟨by rw [s.N]; exact h1, by rw [s.N]; exact h2, by rw [s.N]; exact h3, h4, h5, h6, by rw [s.sc]; exact h7, by rw [s.sc]; exact h8, by rw [s.sc]; exact h9, ?_⟩
  have k1 : X.env.kindOf x = some .local := by show X.env.scope.names.lookup x = _; rw [s.sc]; exact h7
  have k2 : X.env.kindOf y = some .local := by show X.env.scope.names.lookup y = _; rw [s.sc]; exact h8
  have k3 : X.env.kindOf z = some .local := by show X.env.scope.names.lookup z = _; rw [s.sc]; exact h9
  have k4 : X.env.blockKind = .function := by unfold Env.blockKind; rw [s.sc, h10]; rfl
  unfold swappedStores
  simp only []
  rw [any3_not (g := notStar) (fun e he => by cases e <;> first | rfl | cases he) h16 h17 h18]
  simp only [k4, List.length_cons, List.length_nil, List.head?_cons, Option.map_some, Option.getD_some, Expr.pos, List.filterMap_cons, List.filterMap_nil, k1, k2, k3, ← h11, ← h12, beq_self_eq_true, Bool.and_self, if_true, h19, h20]
  have e2 : ([x, y, z] : List Str).eraseDups = [x, y, z] := by
    have q1 : (y == x) = false := by simpa [beq_eq_false_iff_ne] using fun q : y = x => h13 q.symm
    have q2 : (z == x) = false := by simpa [beq_eq_false_iff_ne] using fun q : z = x => h14 q.symm
    have q3 : (z == y) = false := by simpa [beq_eq_false_iff_ne] using fun q : z = y => h15 q.symm
    simp [List.eraseDups_cons, q1, q2, q3]
  simp [e2]
theorem sole_no {e t : Expr} {l : Nat} {env : Env} (h : notComp e = true) : swapsWithSole [t] e l env = pure false := swaps_no (t := some t) h
theorem swaps_cell {e : Expr} {y : Str} {py : Pos} {l : Nat} {env : Env} (h : ¬ env.scope.names.lookup y = some .local) : swapsWith e (some (.Name y py)) l env = pure false := by
  have ky : ¬ env.kindOf y = some .local := h
  have kb : (env.kindOf y == some .local) = false := by
    cases q : env.kindOf y with
    | none => rfl
    | some k => cases k <;> first | rfl | exact absurd q ky
  unfold swapsWith
  split
  · simp only [kb, Bool.and_false, Bool.false_and]
  · rfl
theorem sole_tup {e : Expr} {ts : List Expr} {k : Nat} {p : Pos} {l : Nat} {env : Env} : swapsWithSole [.Tuple ts k p] e l env = pure false := by
  cases e <;> rfl
mutual
def chkT (T : Tb) : St → Sx → Stmt → Bool
  | .asg i x, S, st => match st with
    | .Assign [.Name y p'] e pos => (storeB S i y && (S.sc.names.lookup y != some .local) && chkE T x S e) || (match x with
      | .lc own tg sr cs a => (match e with
        | .ListComp _ _ scope ep => S.N[i]? == some y && S.sc.kind == .function && S.sc.names.lookup y == some .local && (p'.line == ep.line) && !(scope.names.any fun (n, k) => n == y && (k == .local || k == .cell)) && chkE T (.lc own tg sr cs a) S e
        | _ => false)
      | .dc own tg sr cs k a => (match e with
        | .DictComp _ _ _ scope ep => S.N[i]? == some y && S.sc.kind == .function && S.sc.names.lookup y == some .local && (p'.line == ep.line) && !(scope.names.any fun (n, k) => n == y && (k == .local || k == .cell)) && chkE T (.dc own tg sr cs k a) S e
        | _ => false)
      | .lc2 own tg sr cs own1 tg1 sr1 cs1 a => (match e with
        | .ListComp _ _ scope ep => S.N[i]? == some y && S.sc.kind == .function && S.sc.names.lookup y == some .local && (p'.line == ep.line) && !(scope.names.any fun (n, k) => n == y && (k == .local || k == .cell)) && chkE T (.lc2 own tg sr cs own1 tg1 sr1 cs1 a) S e
        | _ => false)
      | x => storeB S i y && notComp e && chkE T x S e)
    | _ => false
  | .asgT is x, S, st => match st with
    | .Assign [.Tuple ts k p] e pos => tgB S (.tp is) (.Tuple ts k p) && notTup e && chkE T x S e
    | _ => false
  | .par2 i j a b, S, st => match st with
    | .Assign [.Tuple [.Name x px, .Name y py] _ _] (.Tuple [a', b'] _ _) _ => parB S i j x y px py a' b' && chkE T a S a' && chkE T b S b'
    | _ => false
  | .par is xs, S, st => match is, st with
    | [i, j], .Assign [.Tuple [.Name x px, .Name y py] _ _] (.Tuple [a', b'] _ _) _ => parB S i j x y px py a' b' && chkEs T xs S [a', b']
    | [i, j, l], .Assign [.Tuple [.Name x px, .Name y py, .Name z pz] _ _] (.Tuple [a', b', c'] _ _) _ => par3B S i j l x y z px py pz a' b' c' && chkEs T xs S [a', b', c']
    | _, _ => false
  | .setIx i k x, S, st => match st with
    | .Assign [.Subscript (.Name y p1) k' p2] e pos => slotB S i y && notSlice k' && notComp e && chkE T k S k' && chkE T x S e
    | _ => false
  | .exs x, S, st => match st with
    | .Expr e _ => notComp e && chkE T x S e
    | _ => false
  | .ret x, S, st => match st with
    | .Return (some e) _ => chkE T x S e
    | _ => false
  | .retN, S, st => match st with
    | .Return none _ => true
    | _ => false
  | .ite c a b, S, st => match st with
    | .If c' a' b' _ => chkE T c S c' && chkTs T a S a' && chkTs T b S b'
    | _ => false
  | .whl c b, S, st => match st with
    | .While c' b' [] _ => chkE T c S c' && chkTs T b S b'
    | _ => false
  | .forr tg sr b, S, st => match st with
    | .For t it b' [] _ => tgB S tg t && notSet it && chkS T sr S t it && chkTs T b S b'
    | _ => false
  | .pass, S, st => match st with
    | .Pass _ => true
    | _ => false
  | .brk, S, st => match st with
    | .Break _ => true
    | _ => false
  | .cnt, S, st => match st with
    | .Continue _ => true
    | _ => false
  | .raise c x, S, st => match st with
    | .Raise (some (.Call (.Name y _) [e] [] _)) none _ => T.exs.contains c && excNames[c]? == some y && glB S.sc y && notStar e && chkE T x S e
    | _ => false
  | .tryC rb c i j, S, st => match st with
    | .Try body [.ExceptHandler (some (.Name x _)) (some n) [.Assign [.Name y _] (.Name n' _) _] _] [] [] _ => n' == n && S.N[i]? == some n && S.N[j]? == some y && S.sc.names.lookup n == some .local && S.sc.names.lookup y == some .local && okN n &&
        T.exs.contains c && excNames[c]? == some x && glB S.sc x && chkTs T rb S body
    | _ => false
def chkTs (T : Tb) : Sts → Sx → List Stmt → Bool
  | .nil, _, sts => sts.isEmpty
  | .cons s r, S, sts => match sts with
    | st :: sts => chkT T s S st && chkTs T r S sts
    | [] => false
end

section
variable {T : Tb} {C : Calls} {cA : Nat → Addr} {n : Nat}
theorem s1_asgLc {U : Consts} {X : Cx} {own : List Nat} {tg : Tg} {sr : Src} {cs : Exs} {a : Ex} {i : Nat} {y : Str} {py pos spos : Pos} {el t it : Expr} {ifs : List Expr} {scope : Scope} {ow : List (Str × Nat)}
    (hc : X.calm = true) (hN : X.N.Nodup) (hy : X.N[i]? = some y) (hyl : X.env.scope.names.lookup y = some .local) (hsw : swapsWith (.ListComp el [⟨t, it, ifs, 0⟩] scope pos) (some (.Name y py)) spos.line X.env = pure true) (ok : BlkOk X.N X.env.scope scope ow) (ho : ow.map (·.2) = own)
    (hs : ∀ x, foldedSetIterable it X.env x = pure x)
    (main : ∀ W, Takes X W → ∃ t0 wi g tt te, t0 = tLc wi g tt te own ∧ PI X t it wi ∧
      (∀ (s : Shared) (H : Hp) (D : Addr) (cl : List (Str × Addr)) (fp : List Addr), PG (X.blk s H scope (compEnvC scope cl D X.env) fp) t g) ∧
      (∀ (s : Shared) (H : Hp) (D : Addr) (cl : List (Str × Addr)) (fp : List Addr), PTs (X.blk s H scope (compEnvC scope cl D X.env) fp) ifs tt) ∧
      (∀ (s : Shared) (H : Hp) (D : Addr) (cl : List (Str × Addr)) (fp : List Addr), PE (X.blk s H scope (compEnvC scope cl D X.env) fp) el te) ∧
      ∀ B A G H σ ρ Q, FR X.K B A G H σ ρ → FinV ⟨X.K, B, A, σ, W, cA⟩ G Q (evE U C (.lc own tg sr cs a) ρ) → t0 σ H Q) :
    S1 cA X (.Assign [.Name y py] (.ListComp el [⟨t, it, ifs, 0⟩] scope pos) spos) (runS U C (.asg i (.lc own tg sr cs a))) := by
  intro W tk
  obtain ⟨t0, wi, g, tt, te, e1, p1, p2, p3, p4, h⟩ := main W tk
  have ps := ps_setLc (i := i) (y := y) (py := py) (pos := pos) (spos := spos) hc hN hy hyl hsw p1 ok p2 p3 p4 hs
  rw [ho, ← e1] at ps
  refine ⟨_, ps, fun B A G H σ ρ D F g => ?_⟩
  rw [runS] at g
  exact h B A G H σ ρ _ F (Fin.ex g Sub.rfl fun u ρ1 g1 v G1 H1 s1 F1 r1 => store_go (Δ := ⟨X.K, B, A, W, cA⟩) F1 r1 s1 g1)
theorem lc_parts {own : List Nat} {tg : Tg} {sr : Src} {cs : Exs} {a : Ex} {S : Sx} {el : Expr} {gs : List Comprehension} {scope : Scope} {pos : Pos} {X : Cx} (h : chkE T (.lc own tg sr cs a) S (.ListComp el gs scope pos) = true) (g : GX T C cA n X) (s : SxOk S X) :
    ∃ t it ifs, gs = [⟨t, it, ifs, 0⟩] ∧ BlkOk X.N X.env.scope scope (ownN S.N own) ∧ (ownN S.N own).map (·.2) = own ∧ (∀ x, foldedSetIterable it X.env x = pure x) ∧
    ∀ W, Takes X W → ∃ t0 wi g tt te, t0 = tLc wi g tt te own ∧ PI X t it wi ∧
      (∀ (s : Shared) (H : Hp) (D : Addr) (cl : List (Str × Addr)) (fp : List Addr), PG (X.blk s H scope (compEnvC scope cl D X.env) fp) t g) ∧
      (∀ (s : Shared) (H : Hp) (D : Addr) (cl : List (Str × Addr)) (fp : List Addr), PTs (X.blk s H scope (compEnvC scope cl D X.env) fp) ifs tt) ∧
      (∀ (s : Shared) (H : Hp) (D : Addr) (cl : List (Str × Addr)) (fp : List Addr), PE (X.blk s H scope (compEnvC scope cl D X.env) fp) el te) ∧
      ∀ B A G H σ ρ Q, FR X.K B A G H σ ρ → FinV ⟨X.K, B, A, σ, W, cA⟩ G Q (evE T.U C (.lc own tg sr cs a) ρ) → t0 σ H Q := by
  simp only [chkE] at h
  split at h
  · rename_i el' t it ifs scope' pos' he
    cases he
    simp only [Bool.and_eq_true, beq_iff_eq] at h
    obtain ⟨⟨⟨⟨⟨⟨⟨h1, h2⟩, h3⟩, h4⟩, h5⟩, h6⟩, h7⟩, h8⟩ := h
    have bo : BlkOk X.N X.env.scope scope (ownN S.N own) := by rw [s.N, s.sc]; exact blkB_ok h2
    have hN : X.N.Nodup := by rw [s.N]; exact s.nd
    refine ⟨t, it, ifs, rfl, bo, h1, folded_id h5, ?_⟩
    have main := se_lc (U := T.U) (C := C) (cA := cA) (X := X) (elt := el) (tg := t) (iter := it) (ifs := ifs) (scope := scope) (own := ownN S.N own) (pos := pos) (xs := sr) (xc := cs) (xe := a) (T := tg) g.calm hN bo (folded_id h5)
      (fun i hi => by
        rw [h1]
        simp only [List.all_eq_true, List.contains_eq_mem, decide_eq_true_eq] at h4
        exact h4 i hi)
      (chkS_ok sr S _ _ h6 g s) (fun s' H D cl fp => tgB_ok (s.blk s' H D scope cl fp) (by exact g.calm) h3)
      (fun s' H D cl fp => chkC_ok cs _ _ h7 (g.blk s' H scope _ fp) (s.blk s' H D scope cl fp)) (fun s' H D cl fp => (chkE_ok a _ _ h8 (g.blk s' H scope _ fp) (s.blk s' H D scope cl fp)).1)
    rw [h1] at main
    exact main
  · cases h
theorem s1_asgDc {U : Consts} {X : Cx} {own : List Nat} {tg : Tg} {sr : Src} {cs : Exs} {ka a : Ex} {i : Nat} {y : Str} {py pos spos : Pos} {kx vx t it : Expr} {ifs : List Expr} {scope : Scope} {ow : List (Str × Nat)}
    (hu : X.A.units + 100 < cLine) (hc : X.calm = true) (hN : X.N.Nodup) (hy : X.N[i]? = some y) (hyl : X.env.scope.names.lookup y = some .local) (hsw : swapsWith (.DictComp kx vx [⟨t, it, ifs, 0⟩] scope pos) (some (.Name y py)) spos.line X.env = pure true) (ok : BlkOk X.N X.env.scope scope ow) (ho : ow.map (·.2) = own)
    (hs : ∀ x, foldedSetIterable it X.env x = pure x)
    (main : ∀ W, Takes X W → ∃ t0 wi g tt tk' te, t0 = tDcX X.K wi g tt tk' te own ∧ PI X t it wi ∧
      (∀ (s : Shared) (H : Hp) (D : Addr) (cl : List (Str × Addr)) (fp : List Addr), PG (X.blk s H scope (compEnvC scope cl D X.env) fp) t g) ∧
      (∀ (s : Shared) (H : Hp) (D : Addr) (cl : List (Str × Addr)) (fp : List Addr), PTs (X.blk s H scope (compEnvC scope cl D X.env) fp) ifs tt) ∧
      (∀ (s : Shared) (H : Hp) (D : Addr) (cl : List (Str × Addr)) (fp : List Addr), PE (X.blk s H scope (compEnvC scope cl D X.env) fp) kx tk') ∧
      (∀ (s : Shared) (H : Hp) (D : Addr) (cl : List (Str × Addr)) (fp : List Addr), PE (X.blk s H scope (compEnvC scope cl D X.env) fp) vx te) ∧
      ∀ B A G H σ ρ Q, FR X.K B A G H σ ρ → FinV ⟨X.K, B, A, σ, W, cA⟩ G Q (evE U C (.dc own tg sr cs ka a) ρ) → t0 σ H Q) :
    S1 cA X (.Assign [.Name y py] (.DictComp kx vx [⟨t, it, ifs, 0⟩] scope pos) spos) (runS U C (.asg i (.dc own tg sr cs ka a))) := by
  intro W tk
  obtain ⟨t0, wi, g, tt, tk', te, e1, p1, p2, p3, p4', p4, h⟩ := main W tk
  have ps := ps_setDcX hu (i := i) (y := y) (py := py) (pos := pos) (spos := spos) hc hN hy hyl hsw p1 ok p2 p3 p4' p4 hs
  rw [ho, ← e1] at ps
  refine ⟨_, ps, fun B A G H σ ρ D F g => ?_⟩
  rw [runS] at g
  exact h B A G H σ ρ _ F (Fin.ex g Sub.rfl fun u ρ1 g1 v G1 H1 s1 F1 r1 => store_go (Δ := ⟨X.K, B, A, W, cA⟩) F1 r1 s1 g1)
theorem dc_parts {own : List Nat} {tg : Tg} {sr : Src} {cs : Exs} {ka a : Ex} {S : Sx} {kx vx : Expr} {gs : List Comprehension} {scope : Scope} {pos : Pos} {X : Cx} (h : chkE T (.dc own tg sr cs ka a) S (.DictComp kx vx gs scope pos) = true) (g : GX T C cA n X) (s : SxOk S X) :
    ∃ t it ifs, gs = [⟨t, it, ifs, 0⟩] ∧ BlkOk X.N X.env.scope scope (ownN S.N own) ∧ (ownN S.N own).map (·.2) = own ∧ (∀ x, foldedSetIterable it X.env x = pure x) ∧
    ∀ W, Takes X W → ∃ t0 wi g tt tk' te, t0 = tDcX X.K wi g tt tk' te own ∧ PI X t it wi ∧
      (∀ (s : Shared) (H : Hp) (D : Addr) (cl : List (Str × Addr)) (fp : List Addr), PG (X.blk s H scope (compEnvC scope cl D X.env) fp) t g) ∧
      (∀ (s : Shared) (H : Hp) (D : Addr) (cl : List (Str × Addr)) (fp : List Addr), PTs (X.blk s H scope (compEnvC scope cl D X.env) fp) ifs tt) ∧
      (∀ (s : Shared) (H : Hp) (D : Addr) (cl : List (Str × Addr)) (fp : List Addr), PE (X.blk s H scope (compEnvC scope cl D X.env) fp) kx tk') ∧
      (∀ (s : Shared) (H : Hp) (D : Addr) (cl : List (Str × Addr)) (fp : List Addr), PE (X.blk s H scope (compEnvC scope cl D X.env) fp) vx te) ∧
      ∀ B A G H σ ρ Q, FR X.K B A G H σ ρ → FinV ⟨X.K, B, A, σ, W, cA⟩ G Q (evE T.U C (.dc own tg sr cs ka a) ρ) → t0 σ H Q := by
  simp only [chkE] at h
  split at h
  · rename_i kx' vx' t it ifs scope' pos' he
    cases he
    simp only [Bool.and_eq_true, beq_iff_eq] at h
    obtain ⟨⟨⟨⟨⟨⟨⟨⟨h1, h2⟩, h3⟩, h4⟩, h5⟩, h6⟩, h7⟩, h9⟩, h8⟩ := h
    have bo : BlkOk X.N X.env.scope scope (ownN S.N own) := by rw [s.N, s.sc]; exact blkB_ok h2
    have hN : X.N.Nodup := by rw [s.N]; exact s.nd
    refine ⟨t, it, ifs, rfl, bo, h1, folded_id h5, ?_⟩
    have main := se_dc (U := T.U) (C := C) (cA := cA) (X := X) (kx := kx) (vx := vx) (tg := t) (iter := it) (ifs := ifs) (scope := scope) (own := ownN S.N own) (pos := pos) (xs := sr) (xc := cs) (xk := ka) (xe := a) (T := tg) g.calm hN bo (folded_id h5)
      (fun i hi => by
        rw [h1]
        simp only [List.all_eq_true, List.contains_eq_mem, decide_eq_true_eq] at h4
        exact h4 i hi)
      (chkS_ok sr S _ _ h6 g s) (fun s' H D cl fp => tgB_ok (s.blk s' H D scope cl fp) (by exact g.calm) h3)
      (fun s' H D cl fp => chkC_ok cs _ _ h7 (g.blk s' H scope _ fp) (s.blk s' H D scope cl fp)) (fun s' H D cl fp => (chkE_ok ka _ _ h9 (g.blk s' H scope _ fp) (s.blk s' H D scope cl fp)).1) (fun s' H D cl fp => (chkE_ok a _ _ h8 (g.blk s' H scope _ fp) (s.blk s' H D scope cl fp)).1)
    rw [h1] at main
    exact main
  · cases h
theorem s1_asgLc2 {U : Consts} {X : Cx} {own own1 : List Nat} {tg tg1 : Tg} {sr sr1 : Src} {cs cs1 : Exs} {a : Ex} {i : Nat} {y : Str} {py pos spos : Pos} {el t it t1 it1 : Expr} {ifs ifs1 : List Expr} {scope : Scope} {ow : List (Str × Nat)}
    (hc : X.calm = true) (hN : X.N.Nodup) (hy : X.N[i]? = some y) (hyl : X.env.scope.names.lookup y = some .local) (hsw : swapsWith (.ListComp el [⟨t, it, ifs, 0⟩, ⟨t1, it1, ifs1, 0⟩] scope pos) (some (.Name y py)) spos.line X.env = pure true) (ok : BlkOk X.N X.env.scope scope ow) (ho : ow.map (·.2) = own)
    (hs : ∀ x, foldedSetIterable it X.env x = pure x) (hs1 : ∀ env x, foldedSetIterable it1 env x = pure x) (hv : ∀ i ∈ own1, i ∈ own)
    (main : ∀ W, Takes X W → ∃ t0 wi g tt wi1 g1 tt1 te, t0 = tLc2 wi g tt wi1 g1 tt1 te own own1 ∧ PI X t it wi ∧
      (∀ (s : Shared) (H : Hp) (D : Addr) (cl : List (Str × Addr)) (fp : List Addr), PG (X.blk s H scope (compEnvC scope cl D X.env) fp) t g) ∧
      (∀ (s : Shared) (H : Hp) (D : Addr) (cl : List (Str × Addr)) (fp : List Addr), PTs (X.blk s H scope (compEnvC scope cl D X.env) fp) ifs tt) ∧
      (∀ (s : Shared) (H : Hp) (D : Addr) (cl : List (Str × Addr)) (fp : List Addr), PI (X.blk s H scope (compEnvC scope cl D X.env) fp) t1 it1 wi1) ∧
      (∀ (s : Shared) (H : Hp) (D : Addr) (cl : List (Str × Addr)) (fp : List Addr), PG (X.blk s H scope (compEnvC scope cl D X.env) fp) t1 g1) ∧
      (∀ (s : Shared) (H : Hp) (D : Addr) (cl : List (Str × Addr)) (fp : List Addr), PTs (X.blk s H scope (compEnvC scope cl D X.env) fp) ifs1 tt1) ∧
      (∀ (s : Shared) (H : Hp) (D : Addr) (cl : List (Str × Addr)) (fp : List Addr), PE (X.blk s H scope (compEnvC scope cl D X.env) fp) el te) ∧
      ∀ B A G H σ ρ Q, FR X.K B A G H σ ρ → FinV ⟨X.K, B, A, σ, W, cA⟩ G Q (evE U C (.lc2 own tg sr cs own1 tg1 sr1 cs1 a) ρ) → t0 σ H Q) :
    S1 cA X (.Assign [.Name y py] (.ListComp el [⟨t, it, ifs, 0⟩, ⟨t1, it1, ifs1, 0⟩] scope pos) spos) (runS U C (.asg i (.lc2 own tg sr cs own1 tg1 sr1 cs1 a))) := by
  intro W tk
  obtain ⟨t0, wi, g, tt, wi1, g1, tt1, te, e1, p1, p2, p3, q1, q2, q3, p4, h⟩ := main W tk
  have ps := ps_setLc2 (i := i) (y := y) (py := py) (pos := pos) (spos := spos) hc hN hy hyl hsw p1 ok (fun i hi => by rw [ho]; exact hv i hi) p2 p3 q1 q2 q3 p4 hs hs1
  rw [ho, ← e1] at ps
  refine ⟨_, ps, fun B A G H σ ρ D F g => ?_⟩
  rw [runS] at g
  exact h B A G H σ ρ _ F (Fin.ex g Sub.rfl fun u ρ1 g1 v G1 H1 s1 F1 r1 => store_go (Δ := ⟨X.K, B, A, W, cA⟩) F1 r1 s1 g1)
theorem lc2_parts {own own1 : List Nat} {tg tg1 : Tg} {sr sr1 : Src} {cs cs1 : Exs} {a : Ex} {S : Sx} {el : Expr} {gs : List Comprehension} {scope : Scope} {pos : Pos} {X : Cx} (h : chkE T (.lc2 own tg sr cs own1 tg1 sr1 cs1 a) S (.ListComp el gs scope pos) = true) (g : GX T C cA n X) (s : SxOk S X) :
    ∃ t it ifs t1 it1 ifs1, gs = [⟨t, it, ifs, 0⟩, ⟨t1, it1, ifs1, 0⟩] ∧ (∀ env x, foldedSetIterable it1 env x = pure x) ∧ (∀ i ∈ own1, i ∈ own) ∧ BlkOk X.N X.env.scope scope (ownN S.N own) ∧ (ownN S.N own).map (·.2) = own ∧ (∀ x, foldedSetIterable it X.env x = pure x) ∧
    ∀ W, Takes X W → ∃ t0 wi g tt wi1 g1 tt1 te, t0 = tLc2 wi g tt wi1 g1 tt1 te own own1 ∧ PI X t it wi ∧
      (∀ (s : Shared) (H : Hp) (D : Addr) (cl : List (Str × Addr)) (fp : List Addr), PG (X.blk s H scope (compEnvC scope cl D X.env) fp) t g) ∧
      (∀ (s : Shared) (H : Hp) (D : Addr) (cl : List (Str × Addr)) (fp : List Addr), PTs (X.blk s H scope (compEnvC scope cl D X.env) fp) ifs tt) ∧
      (∀ (s : Shared) (H : Hp) (D : Addr) (cl : List (Str × Addr)) (fp : List Addr), PI (X.blk s H scope (compEnvC scope cl D X.env) fp) t1 it1 wi1) ∧
      (∀ (s : Shared) (H : Hp) (D : Addr) (cl : List (Str × Addr)) (fp : List Addr), PG (X.blk s H scope (compEnvC scope cl D X.env) fp) t1 g1) ∧
      (∀ (s : Shared) (H : Hp) (D : Addr) (cl : List (Str × Addr)) (fp : List Addr), PTs (X.blk s H scope (compEnvC scope cl D X.env) fp) ifs1 tt1) ∧
      (∀ (s : Shared) (H : Hp) (D : Addr) (cl : List (Str × Addr)) (fp : List Addr), PE (X.blk s H scope (compEnvC scope cl D X.env) fp) el te) ∧
      ∀ B A G H σ ρ Q, FR X.K B A G H σ ρ → FinV ⟨X.K, B, A, σ, W, cA⟩ G Q (evE T.U C (.lc2 own tg sr cs own1 tg1 sr1 cs1 a) ρ) → t0 σ H Q := by
  simp only [chkE] at h
  split at h
  · rename_i el' t it ifs t1 it1 ifs1 scope' pos' he
    cases he
    simp only [Bool.and_eq_true, beq_iff_eq] at h
    obtain ⟨⟨⟨⟨⟨⟨⟨⟨h1, h2⟩, h3⟩, h4⟩, h5⟩, h6⟩, h7⟩, h8⟩, ⟨⟨⟨⟨k1, k2⟩, k3⟩, k4⟩, k5⟩, k6⟩ := h
    simp only [List.all_eq_true, List.contains_eq_mem, decide_eq_true_eq] at k2 k3 h4
    have bo : BlkOk X.N X.env.scope scope (ownN S.N own) := by rw [s.N, s.sc]; exact blkB_ok h2
    have hN : X.N.Nodup := by rw [s.N]; exact s.nd
    refine ⟨t, it, ifs, t1, it1, ifs1, rfl, (fun env x => folded_id k4 x), k3, bo, h1, folded_id h5, ?_⟩
    have main := se_lc2 (U := T.U) (C := C) (cA := cA) (X := X) (elt := el) (tg := t) (iter := it) (ifs := ifs) (tg1 := t1) (iter1 := it1) (ifs1 := ifs1) (scope := scope) (own := ownN S.N own) (pos := pos) (xs := sr) (xc := cs) (xe := a) (T := tg) (xs1 := sr1) (xc1 := cs1) (T1 := tg1) (vs1 := own1) g.calm hN bo (folded_id h5)
      (fun i hi => by rw [h1]; exact h4 i hi) (fun i hi => k2 i hi) (fun i hi => by rw [h1]; exact k3 i hi)
      (fun s' H D cl fp => chkS_ok sr1 _ _ _ k5 (g.blk s' H scope _ fp) (s.blk s' H D scope cl fp)) (fun s' H D cl fp => tgB_ok (s.blk s' H D scope cl fp) (by exact g.calm) k1)
      (fun s' H D cl fp => chkC_ok cs1 _ _ k6 (g.blk s' H scope _ fp) (s.blk s' H D scope cl fp))
      (chkS_ok sr S _ _ h6 g s) (fun s' H D cl fp => tgB_ok (s.blk s' H D scope cl fp) (by exact g.calm) h3)
      (fun s' H D cl fp => chkC_ok cs _ _ h7 (g.blk s' H scope _ fp) (s.blk s' H D scope cl fp)) (fun s' H D cl fp => (chkE_ok a _ _ h8 (g.blk s' H scope _ fp) (s.blk s' H D scope cl fp)).1)
    rw [h1] at main
    exact main
  · cases h
mutual
theorem chkT_ok : ∀ (x : St) (S : Sx) (st : Stmt), chkT T x S st = true → ∀ {X : Cx}, GX T C cA n X → SxOk S X → (PassesOwn (model X.prog X.w) X.A X.env X.xe ∧ TopX X) → S1 cA X st (runS T.U C x)
  | .asg i x, S, st, h, X, g, s, hp => by
    simp only [chkT] at h
    split at h
    · rename_i y p' e pos
      rw [Bool.or_eq_true] at h
      rcases h with h | h
      · simp only [Bool.and_eq_true, bne_iff_ne, ne_eq] at h
        obtain ⟨⟨h1, h2⟩, h3⟩ := h
        obtain ⟨k1, k2, k3⟩ := storeB_ok s h1
        exact s1_asg (by rw [s.N]; exact s.nd) k1 k2 k3 (swaps_cell (by rw [s.sc]; exact h2)) (chkE_ok _ S _ h3 g s).1
      split at h
      · rename_i own tg sr cs a
        split at h
        · rename_i el gs scope ep
          simp only [Bool.and_eq_true, beq_iff_eq, Bool.not_eq_true'] at h
          obtain ⟨⟨⟨⟨⟨h1, h2⟩, h3⟩, h4⟩, h5⟩, h6⟩ := h
          obtain ⟨t, it, ifs, rfl, bo, ho, hs, main⟩ := lc_parts h6 g s
          exact s1_asgLc g.calm (by rw [s.N]; exact s.nd) (by rw [s.N]; exact h1) (by rw [s.sc]; exact h3) (sw_true (by rw [s.sc]; exact h2) (by rw [s.sc]; exact h3) (beq_iff_eq.mpr h4) h5) bo ho hs main
        · cases h
      · rename_i own tg sr cs ka a
        split at h
        · rename_i kx vx gs scope ep
          simp only [Bool.and_eq_true, beq_iff_eq, Bool.not_eq_true'] at h
          obtain ⟨⟨⟨⟨⟨h1, h2⟩, h3⟩, h4⟩, h5⟩, h6⟩ := h
          obtain ⟨t, it, ifs, rfl, bo, ho, hs, main⟩ := dc_parts h6 g s
          exact s1_asgDc g.un100 g.calm (by rw [s.N]; exact s.nd) (by rw [s.N]; exact h1) (by rw [s.sc]; exact h3) (sw_trueD (by rw [s.sc]; exact h2) (by rw [s.sc]; exact h3) (beq_iff_eq.mpr h4) h5) bo ho hs main
        · cases h
      · rename_i own tg sr cs own1 tg1 sr1 cs1 a
        split at h
        · rename_i el gs scope ep
          simp only [Bool.and_eq_true, beq_iff_eq, Bool.not_eq_true'] at h
          obtain ⟨⟨⟨⟨⟨h1, h2⟩, h3⟩, h4⟩, h5⟩, h6⟩ := h
          obtain ⟨t, it, ifs, t1, it1, ifs1, rfl, hs1, hv, bo, ho, hs, main⟩ := lc2_parts h6 g s
          exact s1_asgLc2 g.calm (by rw [s.N]; exact s.nd) (by rw [s.N]; exact h1) (by rw [s.sc]; exact h3) (sw_true (by rw [s.sc]; exact h2) (by rw [s.sc]; exact h3) (beq_iff_eq.mpr h4) h5) bo ho hs hs1 hv main
        · cases h
      · simp only [Bool.and_eq_true] at h
        obtain ⟨⟨h1, h2⟩, h3⟩ := h
        obtain ⟨k1, k2, k3⟩ := storeB_ok s h1
        exact s1_asg (by rw [s.N]; exact s.nd) k1 k2 k3 (swaps_no h2) (chkE_ok _ S _ h3 g s).1
    · cases h
  | .asgT is x, S, st, h, X, g, s, hp => by
    simp only [chkT] at h
    split at h
    · rename_i ts k p e pos
      simp only [Bool.and_eq_true] at h
      obtain ⟨⟨h1, h3⟩, h4⟩ := h
      exact s1_asgT (tgB_ok s g.calm h1) (sole_tup) (by cases e <;> first | rfl | cases h3) rfl (chkE_ok _ S _ h4 g s).1
    · cases h
  | .par2 i j a b, S, st, h, X, g, s, hp => by
    simp only [chkT] at h
    split at h
    · simp only [Bool.and_eq_true] at h
      obtain ⟨⟨h1, h2⟩, h3⟩ := h
      obtain ⟨k1, k2, k3, k4, k5, k6, k7, k8⟩ := parB_ok s h1
      exact s1_par2 g.calm (by rw [s.N]; exact s.nd) k1 k2 k3 k4 k5 (stars_cons k6) (stars_cons k7) k8 rfl (chkE_ok _ S _ h2 g s).1 (chkE_ok _ S _ h3 g s).1
    · cases h
  | .par is xs, S, st, h, X, g, s, hp => by
    simp only [chkT] at h
    split at h
    · simp only [Bool.and_eq_true] at h
      obtain ⟨h1, h2⟩ := h
      obtain ⟨k1, k2, k3, k4, k5, k6, k7, k8⟩ := parB_ok s h1
      exact s1_parL2 g.calm (by rw [s.N]; exact s.nd) k1 k2 k3 k4 k5 k8 rfl (chkEs_ok xs S _ h2 g s).skp
    · simp only [Bool.and_eq_true] at h
      obtain ⟨h1, h2⟩ := h
      obtain ⟨k1, k2, k3, k4, k5, k6, k7, k8, k9, k10⟩ := par3B_ok s h1
      exact s1_parL3 g.calm (by rw [s.N]; exact s.nd) k1 k2 k3 k4 k5 k6 k7 k8 k9 k10 rfl (chkEs_ok xs S _ h2 g s).skp
    · cases h
  | .setIx i k x, S, st, h, X, g, s, hp => by
    simp only [chkT] at h
    split at h
    · rename_i y p1 k' p2 e pos
      simp only [Bool.and_eq_true] at h
      obtain ⟨⟨⟨⟨h1, h2⟩, h3⟩, h4⟩, h5⟩ := h
      obtain ⟨k1, k2, k3, k4⟩ := slotB_ok s h1
      exact s1_setIx g.un100 k1 k2 k3 k4 (by intro v; cases k' <;> first | rfl | cases h2) (sole_no h3) rfl (chkE_ok _ S _ h4 g s).1 (chkE_ok _ S _ h5 g s).1
    · cases h
  | .exs x, S, st, h, X, g, s, hp => by
    simp only [chkT] at h
    split at h
    · simp only [Bool.and_eq_true] at h
      exact s1_exs (chkE_ok _ S _ h.2 g s).1 (swaps_no h.1)
    · cases h
  | .ret x, S, st, h, X, g, s, hp => by
    simp only [chkT] at h
    split at h
    · exact s1_ret (chkE_ok _ S _ h g s).1
    · cases h
  | .retN, S, st, h, X, g, s, hp => by
    simp only [chkT] at h
    split at h
    · exact s1_retN
    · cases h
  | .ite c a b, S, st, h, X, g, s, hp => by
    simp only [chkT] at h
    split at h
    · simp only [Bool.and_eq_true] at h
      obtain ⟨⟨h1, h2⟩, h3⟩ := h
      exact s1_ite (chkE_ok _ S _ h1 g s).2 (chkTs_ok a S _ h2 g s hp) (chkTs_ok b S _ h3 g s hp)
    · cases h
  | .whl c b, S, st, h, X, g, s, hp => by
    simp only [chkT] at h
    split at h
    · simp only [Bool.and_eq_true] at h
      exact s1_while hp.1 (chkE_ok _ S _ h.1 g s).2 (chkTs_ok b S _ h.2 g s hp)
    · cases h
  | .forr tg sr b, S, st, h, X, g, s, hp => by
    simp only [chkT] at h
    split at h
    · simp only [Bool.and_eq_true] at h
      obtain ⟨⟨⟨h1, h2⟩, h3⟩, h4⟩ := h
      exact s1_for hp.1 g.calm (folded_id h2) (chkS_ok sr S _ _ h3 g s) (tgB_ok s g.calm h1) (chkTs_ok b S _ h4 g s hp)
    · cases h
  | .pass, S, st, h, X, g, s, hp => by
    simp only [chkT] at h
    split at h
    · exact s1_pass
    · cases h
  | .brk, S, st, h, X, g, s, hp => by
    simp only [chkT] at h
    split at h
    · exact s1_brk
    · cases h
  | .cnt, S, st, h, X, g, s, hp => by
    simp only [chkT] at h
    split at h
    · exact s1_cnt
    · cases h
  | .raise c x, S, st, h, X, g, s, hp => by
    simp only [chkT] at h
    split at h
    · simp only [Bool.and_eq_true, beq_iff_eq, List.contains_eq_mem, decide_eq_true_eq] at h
      obtain ⟨⟨⟨⟨h1, h2⟩, h3⟩, h4⟩, h5⟩ := h
      obtain ⟨m1, m2⟩ := glB_ok s h3
      have ea := g.exs c h1
      obtain ⟨nm, q1, q2, q3⟩ := ea.nm
      rw [h2] at q1; cases q1
      obtain ⟨fI, fd, i1, i2, i3, i4⟩ := ea.ini
      rw [← g.hcA] at q2 q3 i1
      have ec := ea.cls
      rw [← g.hcA] at ec
      exact s1_raise g.calm q3 ec.oex i1 i2 ec.val i3 (g.room.mono (by omega)) i4 m1 q2 m2 (stars_cons h4) (chkE_ok _ S _ h5 g s).1
    · cases h
  | .tryC rb c i j, S, st, h, X, g, s, hp => by
    simp only [chkT] at h
    split at h
    · simp only [Bool.and_eq_true, beq_iff_eq, List.contains_eq_mem, decide_eq_true_eq] at h
      obtain ⟨⟨⟨⟨⟨⟨⟨⟨⟨h0, h1⟩, h2⟩, h3⟩, h4⟩, h5⟩, h6⟩, h7⟩, h8⟩, h9⟩ := h
      subst h0
      obtain ⟨m1, m2⟩ := glB_ok s h8
      obtain ⟨nm, q1, q2, q3⟩ := (g.exs c h6).nm
      rw [h7] at q1; cases q1
      obtain ⟨k1, k2⟩ := okN_ok h5
      exact s1_tryC hp.2 (by rw [s.N]; exact s.nd) (by rw [s.N]; exact h1) (by rw [s.N]; exact h2) (by show X.env.scope.names.lookup _ = _; rw [s.sc]; exact h3) (by show X.env.scope.names.lookup _ = _; rw [s.sc]; exact h4) k1 k2 ⟨m1, m2, .inl q2⟩
        (fun c' C' q => by rw [cA_of q]; exact (g.err.sub c h6 c' (g.err.all _ _ q)).1)
        fun pn xe pw => chkTs_ok rb S _ h9 (g.tr pn xe) ⟨s.N, s.nd, s.sc, s.fn⟩ ⟨pw, ⟨hp.2.stk, hp.2.ex, hp.2.fr⟩⟩
    · cases h
theorem chkTs_ok : ∀ (x : Sts) (S : Sx) (sts : List Stmt), chkTs T x S sts = true → ∀ {X : Cx}, GX T C cA n X → SxOk S X → (PassesOwn (model X.prog X.w) X.A X.env X.xe ∧ TopX X) → SN cA X sts (runSs T.U C x)
  | .nil, S, sts, h, X, g, s, hp => by
    simp only [chkTs] at h
    cases sts with
    | nil => exact sn_nil
    | cons _ _ => cases h
  | .cons x xs, S, sts, h, X, g, s, hp => by
    simp only [chkTs] at h
    split at h
    · simp only [Bool.and_eq_true] at h
      exact sn_cons (chkT_ok x S _ h.1 g s hp) (chkTs_ok xs S _ h.2 g s hp)
    · cases h
end
end
end Ev

set_option Elab.async false
set_option linter.all false
set_option maxRecDepth 100000
/-! A def of the text keeps what the evaluator says; all of them, by levels. -/
namespace Ev
open PySem PySem.Spec PyProof.Rows L2
open Classical

noncomputable def pinA (vs : List V) (avs : List AV) : Fix := fun i => match vs[i]?, avs[i]? with
  | some (.ref a), some (.o _) => some (a, true)
  | _, _ => none
theorem pinA_some {vs : List V} {avs : List AV} {i : Nat} {a : Addr} {p : Bool} (h : pinA vs avs i = some (a, p)) : p = true ∧ vs[i]? = some (V.ref a) ∧ ∃ c, avs[i]? = some (AV.o c) := by
  unfold pinA at h
  split at h
  · rename_i a' c e1 e2
    cases h
    exact ⟨rfl, e1, c, e2⟩
  · cases h
theorem enter_get {F : Fd} {avs : List AV} {i : Nat} : get (F.enter avs) i = match avs[i]? with
    | some (.d x) => .d x
    | some (.o c) => .o true false c
    | some (.x c y) => .x c y
    | none => .no := by
  unfold get Fd.enter
  by_cases h : i < avs.length
  · rw [List.getElem?_append_left (by simpa using h), List.getElem?_map, List.getElem?_eq_getElem h]
    cases avs[i] <;> rfl
  · rw [List.getElem?_append_right (by simpa using h), List.getElem?_eq_none (l := avs) (by omega), List.getElem?_replicate]
    split <;> rfl
theorem start_get {N : List Str} {vs : List V} {i : Nat} {v : V} (h : vs[i]? = some v) : (L2.start N vs)[i]? = some (some v) := by
  have hl := (List.getElem?_eq_some_iff.mp h).1
  unfold L2.start
  rw [List.getElem?_append_left (by simpa using hl), List.getElem?_map, h]; rfl
theorem start_fr {K : Frg} {G H : Hp} {vs : List V} {avs : List AV} {F : Fd} {N : List Str} (s : Sub G H) (pa : Paired (AvAt K G H) vs avs) (di : Dist vs avs) (h1 : avs.length ≤ F.ns) (h2 : F.ns = N.length) :
    FR K (prot G H vs avs) (pinA vs avs) G H (L2.start N vs) (F.enter avs) := by
  have hl := Paired.length pa
  have ownO : ∀ {i p l c}, get (F.enter avs) i = .o p l c → p = true ∧ l = false ∧ avs[i]? = some (.o c) ∧ ∃ a, vs[i]? = some (V.ref a) ∧ G a = none ∧ ConAt K G H a c := fun {i p l c} e => by
    rw [enter_get] at e
    split at e
    · cases e
    · rename_i c' q
      cases e
      obtain ⟨v, q1, q2⟩ := paired_get pa q
      obtain ⟨a, rfl, q3, q4⟩ := q2
      exact ⟨rfl, rfl, q, a, q1, q3, q4⟩
    · cases e
    · cases e
  refine ⟨by simp [Fd.enter, L2.start]; omega, s, fun a o e => (prot_some e).2.2, fun a o e => ?_, fun i x e => ?_, fun i p c e => ?_, fun i p c e => ?_, fun i j p c p' c' v e1 e2 q1 q2 => ?_, fun i c x e => ?_, fun i a p e => ?_, fun i p l c e q => ?_⟩
  · unfold prot; rw [if_pos (.inl (by rw [e]; rfl))]
  · rw [enter_get] at e
    split at e
    · rename_i y q
      cases e
      obtain ⟨v, q1, q2⟩ := paired_get pa q
      exact ⟨v, start_get q1, q2⟩
    · cases e
    · cases e
    · cases e
  · obtain ⟨_, _, k1, a, k2, k3, k4⟩ := ownO e
    refine ⟨a, start_get k2, k3, ?_, k4⟩
    unfold prot; rw [if_pos (.inr ⟨i, c, k2, k1⟩)]
  · obtain ⟨_, z, _⟩ := ownO e; cases z
  · obtain ⟨_, _, k1, a, k2, _, _⟩ := ownO e1
    obtain ⟨_, _, m1, b, m2, _, _⟩ := ownO e2
    rw [start_get k2] at q1; cases q1
    rw [start_get m2] at q2; cases q2
    exact di i j _ c c' k2 k1 m2 m1
  · rw [enter_get] at e
    split at e
    · cases e
    · cases e
    · rename_i c' y q
      cases e
      obtain ⟨v, q1, q2⟩ := paired_get pa q
      exact ⟨v, start_get q1, q2⟩
    · cases e
  · obtain ⟨rfl, k1, c, k2⟩ := pinA_some e
    exact ⟨start_get k1, false, c, by rw [enter_get, k2], rfl⟩
  · obtain ⟨rfl, rfl, k1, a, k2, _, _⟩ := ownO e
    exact ⟨a, by unfold pinA; rw [k2, k1]⟩
/-- what a frame left of the containers that came in -/
theorem fin_at {K : Frg} {G G' H H' : Hp} {vs : List V} {avs : List AV} {σ : L2.St} {ρ : Rho} {np : Nat} (hl : avs.length = np) (F : FR K (prot G H vs avs) (pinA vs avs) G' H' σ ρ) : FinAt K G' H' vs avs (ρ.take np) := fun i a c e1 e2 => by
  have hA : pinA vs avs i = some (a, true) := by unfold pinA; rw [e1, e2]
  obtain ⟨k1, l, c', k2, _⟩ := F.fix i a true hA
  have hi : i < np := by rw [← hl]; exact (List.getElem?_eq_some_iff.mp e2).1
  have hr : i < ρ.length := get_lt (by rw [k2]; simp)
  have q : (ρ.take np)[i]? = some (.o true l c') := by
    rw [List.getElem?_take_of_lt hi, List.getElem?_eq_getElem hr]
    unfold get at k2
    rw [List.getElem?_eq_getElem hr] at k2
    exact congrArg some k2
  cases l with
  | false =>
    obtain ⟨b, m1, m2, m3, m4⟩ := F.own i true c' k2
    rw [k1] at m1; cases m1
    exact ⟨true, false, c', q, m2, m4⟩
  | true =>
    obtain ⟨b, ys, ws, m1, m2, m3, m4⟩ := F.lck i true c' k2
    rw [k1] at m1; cases m1
    have := (prot_some m3).2.1
    exact absurd ⟨i, c, e1, e2⟩ this
theorem aft_of {K : Frg} {G G' H H' : Hp} {vs : List V} {avs : List AV} {σ : L2.St} {ρ : Rho} {A : Fix} (s : Sub G G') (F : FR K (prot G H vs avs) A G' H' σ ρ) : Aft (prot G H vs avs) G G' H' := ⟨s, F.gh, F.bh, F.gb⟩

section
variable {P : Program} {w : World} {K : Frg} {mg : Str → Option Value} {base : Heap} {cA : Nat → Addr} {U : Consts} {Fs : List Fd}
/-- a body's reading, at a call -/
theorem body_at {X : Cx} {n i : Nat} {Fn : Fd} {N ps : List Str} {body : List Stmt} {vs : List V} {H : Hp} {Q : VK} {E : XK} (hK : X.K = K) (hnp : Fn.np = ps.length) (hns : Fn.ns = N.length) (hF : Fs[i]? = some Fn)
    (tk : Takes X fun cls d _ H' => E cls d H') (hb : SN cA X body (runSs U (calls U Fs n) Fn.body)) (h : SpF K cA (calls U Fs (n + 1)) ps.length i vs H Q E) :
    ∃ t, PSs X body t ∧ t { nx := fun _ H' => Q .non H', rt := Q } (L2.start N vs) H := by
  obtain ⟨t, p, k⟩ := hb _ tk
  refine ⟨t, p, ?_⟩
  obtain ⟨G, avs, h1, h2, h3, h4, h5⟩ := h
  have hl : avs.length = Fn.np := by rw [← Paired.length h3, h1, hnp]
  have e : calls U Fs (n + 1) i avs = Fn.run U (calls U Fs n) avs := by rw [calls, hF]
  rw [e] at h5
  unfold Fd.run at h5
  by_cases hc : avs.length = Fn.np ∧ Fn.np ≤ Fn.ns
  · rw [if_pos hc] at h5
    refine k _ _ G H _ _ _ (by rw [hK]; exact start_fr h2 h3 h4 (by omega) hns) ?_
    have noOwn : ∀ {a : Addr}, (∀ j b, pinA vs avs j = some (b, true) → b ≠ a) → ¬ Own vs avs a := fun {a} q ⟨j, c, e1, e2⟩ => q j a (by unfold pinA; rw [e1, e2]) rfl
    cases q : runSs U (calls U Fs n) Fn.body (Fn.enter avs) with
    | stuck => rw [q] at h5; exact h5.elim
    | exc c x ρ =>
      simp only [q] at h5
      intro cls d σ' G' H' s' F' ex
      rw [hK] at F'
      exact h5 cls d G' H' (aft_of s' F') (fin_at hl F') (by rw [hK] at ex; exact ex)
    | ok f ρ =>
      simp only [q] at h5
      cases f with
      | nx =>
        simp only at h5
        intro σ' G' H' s' F'
        rw [hK] at F'
        exact h5 .non G' H' (aft_of s' F') (fin_at hl F') .non
      | bk => exact h5.elim
      | ct => exact h5.elim
      | ret r =>
        simp only at h5
        intro v σ' G' H' s' F' rv
        rw [hK] at F'
        refine h5 v G' H' (aft_of s' F') (fin_at hl F') ?_
        cases r with
        | d x => rw [hK] at rv; exact rv
        | x c x => rw [hK] at rv; exact rv
        | o c =>
          obtain ⟨a, rfl, k2, k3, k4, k5⟩ := rv
          exact ⟨a, rfl, k2, k3, noOwn k5, by rw [hK] at k4; exact k4⟩
  · rw [if_neg hc] at h5; exact h5.elim
theorem fok_zero {n i : Nat} {f : Addr} {fd : FuncData} {ps : List Str} : FOk P w K mg base n f fd ps (SpF K cA (calls U Fs 0) ps.length i) := by
  have no : ∀ {vs H Q E}, ¬ SpF K cA (calls U Fs 0) ps.length i vs H Q E := fun {vs H Q E} h => by
    obtain ⟨G, avs, _, _, _, _, h5⟩ := h
    have e : calls U Fs 0 i avs = .stuck := by rw [calls]
    rw [e] at h5; exact h5
  exact ⟨fun _ _ _ _ h => (no h).elim, fun _ _ _ _ _ _ _ _ _ _ _ _ _ _ h => (no h).elim⟩
theorem fok_succ {n i : Nat} {Fn : Fd} {x qual : Str} {st : Stmt} {f : Addr} {fd : FuncData} {N ps : List Str} (F : Fun K x qual st f fd) (S : FnScope N ps (defScope st)) (hF : Fs[i]? = some Fn) (hnp : Fn.np = ps.length) (hns : Fn.ns = N.length)
    (hbody : ∀ (cdv : Value) (A : Around) (outer : List Env) (s : Shared) (H : Hp) (E : XK), Room (n + 3) (A.deeper (envOfC qual (defScope st) s.heap.objs.size f cdv)) → A.guards = some [] →
      SN cA (cxOf (L2.CX P w) P w K mg base N qual (defScope st) f cdv A outer s H E) (defBody st) (runSs U (calls U Fs n) Fn.body)) :
    FOk P w K mg base (n + 1) f fd ps (SpF K cA (calls U Fs (n + 1)) ps.length i) := by
  obtain ⟨oc, od, kV, doc, pm, an, code, ct, osl, rfl, lk, hcd⟩ := F.ex
  have hlen : ∀ {vs H Q E}, SpF K cA (calls U Fs (n + 1)) ps.length i vs H Q E → vs.length = ps.length := fun {vs H Q E} h => h.choose_spec.choose_spec.1
  refine ⟨fun _ _ _ _ h => hlen h, fun A outer s H args us vs Q E room hgd e0 bound rel want => ?_⟩
  have len := hlen want
  have old : ∀ (b : Addr) (o : Obj), base.get? b = some o → s.heap.get? b = some o := fun b o q => (e0.bs b o q).1
  have inK : K.In s.heap := PySem.W.Frag.In.keeps e0.mod.kin old
  have kinds : ∀ z ∈ ps.zip us, (defScope st).names.lookup z.1 = some .local ∨ ((defScope st).names.lookup z.1 = some .cell ∧ ((cellsFrom (s.heap.objs.size + 1) (defScope st).names []).lookup z.1).isSome = true) := by
    rintro ⟨a, b⟩ hz
    exact (S.par a (List.of_mem_zip hz).1).imp id fun q => ⟨q, PySem.W.cellsFrom_some _ _ _ (.inl q)⟩
  refine codeAny_call_function room.depth (inK _ _ lk) rfl S.co S.gen rfl (PySem.W.codeRec_of inK hcd) (bound _ _ _ _ ?_)
  refine wpAny_newFunctionEnv_cells S.kind kinds fun env he s1 born => ?_
  subst he
  refine ⟨(e0.mod.nolimit.keeps old).keeps born.toInCall.keep, codeAny_func ?_⟩
  have room' := room.deeper (envOfC qual (defScope st) s.heap.objs.size f code)
  have sn := hbody code A outer s H E room' hgd
  have takes : Takes (cxOf (L2.CX P w) P w K mg base N qual (defScope st) f code A outer s H E) (fun cls d _ H' => E cls d H') := takes_of rfl rfl rfl rfl
  obtain ⟨t, runs, reads⟩ := body_at (K := K) (Q := Q) (E := E) rfl hnp hns hF takes sn want
  have I := inv_start (CX := L2.CX P w) (E := E) S room.hd e0 len rel born
  refine wpAny_mono (runs.run [] s1 _ H _ I reads) (fun fl s' hs => ?_) fun _ _ q => q
  cases fl with
  | brk => obtain ⟨_, _, _, q⟩ := hs; exact q.elim
  | cont => obtain ⟨_, _, _, q⟩ := hs; exact q.elim
  | next =>
    obtain ⟨σ', H', J, q⟩ := hs
    exact ⟨V.non, H', J.os, J.bare, J.base, J.hok, rfl, q⟩
  | ret u =>
    obtain ⟨v, σ', H', J, ru, q⟩ := hs
    exact ⟨v, H', J.os, J.bare, J.base, J.hok, ru, q⟩
end
end Ev

set_option Elab.async false
set_option linter.all false
set_option maxRecDepth 100000
/-! All defs of a text; the end of a law. -/
namespace Ev
open PySem PySem.Spec PyProof.Rows L2

structure FnS where
  x : Str
  ps : List Str
  N : List Str
  st : Stmt
  fd : Fd
  kw : List (Nat × List Nat) := []
def scopeB (N P : List Str) (sc : Scope) : Bool :=
  (sc.kind == .function) && !sc.isCoroutine && !sc.isGenerator && decide N.Nodup && (N.take P.length == P) && (P.all fun x => sc.names.lookup x == some .local || sc.names.lookup x == some .cell) && (sc.names.all fun y => y.2 != .free)
theorem scopeB_ok {N P : List Str} {sc : Scope} (h : scopeB N P sc = true) : FnScope N P sc := by
  simp only [scopeB, Bool.and_eq_true, beq_iff_eq, Bool.not_eq_true', decide_eq_true_eq, List.all_eq_true, Bool.or_eq_true, bne_iff_ne, ne_eq] at h
  obtain ⟨⟨⟨⟨⟨⟨h1, h2⟩, h3⟩, h4⟩, h5⟩, h6⟩, h7⟩ := h
  exact ⟨h1, h2, h3, h4, h5, h6, h7⟩
def FnS.ok (T : Tb) (f : FnS) : Bool :=
  scopeB f.N f.ps (defScope f.st) && (f.fd.np == f.ps.length) && (f.fd.ns == f.N.length) && chkTs T f.fd.body ⟨f.N, defScope f.st, (defScope f.st).names⟩ (defBody f.st)
/-- a def as it stands in the module -/
def FnAt (K : Frg) (mg : Str → Option Value) (f : FnS) : Prop :=
  ∃ (fa : Addr) (fd : FuncData), mg f.x = some (.ref fa) ∧ Fun K f.x f.x f.st fa fd ∧ (∀ (s : Shared) (us : List Value), us.length = f.ps.length → BindsTo s fd ⟨us, []⟩ (f.ps.zip us)) ∧
    (∀ (s : Shared) (us : List Value), us.length = f.ps.length → BindsTo s fd ⟨[], f.ps.zip us⟩ (f.ps.zip us)) ∧ ∀ v ∈ f.kw, BindM fd f.ps v
/-- a class of errors as it stands in the module -/
structure ErrM (K : Frg) (mg : Str → Option Value) (c : Nat) : Prop where
  nm : ∃ x, excNames[c]? = some x ∧ mg x = some (.ref (cAof K c)) ∧ exA K c (cAof K c)
  cls : ErrC K (cAof K c)
  ini : ∃ (fI : Addr) (fd : FuncData) (st : Stmt) (q : Str), PySem.W.findIn K (.ref (cAof K c)) "__init__" = some (some (.ref fI)) ∧ PySem.W.typeIn K (.ref fI) = some (.type "function") ∧ Fun K "__init__" q st fI fd ∧ IsInit st ∧ Binds K fd ["self", "value"] []
  ve : mg "ValueError" = none
  vV : PySem.W.findCls K (.type "ValueError") (.type "type") "__init__" = some (.val (.builtin "ValueError.__init__"))
theorem ErrM.at {P : Program} {w : World} {K : Frg} {mg : Str → Option Value} {base : Heap} {c : Nat} (h : ErrM K mg c) : ErrAt P w K mg base c :=
  ⟨h.nm, h.cls, let ⟨fI, fd, _, _, h1, h2, h3, h4, h5⟩ := h.ini; ⟨fI, fd, h1, h2, init_ok h3 h4 h.ve h.vV, h5⟩⟩
structure TbAt (K : Frg) (w : World) (mg : Str → Option Value) (T : Tb) : Prop where
  bl : ∀ x ∈ T.bls, mg x = none
  dat : ∀ (j : Nat) (x : Str) (d : PyData), T.dat[j]? = some (x, d) → ∃ u v, mg x = some u ∧ RelV v u ∧ Dp K Hp0 v d
  dic : ∀ (j : Nat) (x : Str) (kvs : List (Str × PyData)), T.dic[j]? = some (x, kvs) → ∃ a, mg x = some (.ref a) ∧ DicAt K w a kvs
  exs : ∀ c ∈ T.exs, ErrM K mg c
  err : ErrsIn K T.exs
section
variable {P : Program} {w : World} {K : Frg} {mg : Str → Option Value} {base : Heap} {T : Tb} {fs : List FnS}
abbrev fdsOf (fs : List FnS) : List Fd := fs.map (·.fd)
theorem calls_len (hok : ∀ f ∈ fs, FnS.ok T f = true) {n j : Nat} {f : FnS} (hj : fs[j]? = some f) : ∀ avs, calls T.U (fdsOf fs) n j avs ≠ .stuck → avs.length = f.ps.length := by
  intro avs h
  cases n with
  | zero => rw [calls] at h; exact absurd rfl h
  | succ n =>
    have e : (fdsOf fs)[j]? = some f.fd := by simp [hj]
    rw [calls, e] at h
    simp only [Fd.run] at h
    have hf := hok f (List.mem_of_getElem? hj)
    simp only [FnS.ok, Bool.and_eq_true, beq_iff_eq] at hf
    by_cases hc : avs.length = f.fd.np ∧ f.fd.np ≤ f.fd.ns
    · rw [hc.1, hf.1.1.2]
    · rw [if_neg hc] at h; exact absurd rfl h
theorem all_fok (hT : T.fns = fs.map fun f => (f.x, f.ps)) (hK : T.kws = fs.map (·.kw)) (tb : TbAt K w mg T) (hok : ∀ f ∈ fs, FnS.ok T f = true) (hat : ∀ f ∈ fs, FnAt K mg f) : ∀ (n i : Nat) (f : FnS), fs[i]? = some f → ∀ (fa : Addr) (fd : FuncData), Fun K f.x f.x f.st fa fd →
    FOk P w K mg base n fa fd f.ps (SpF K (cAof K) (calls T.U (fdsOf fs) n) f.ps.length i) := by
  intro n
  induction n with
  | zero => exact fun i f _ fa fd _ => fok_zero
  | succ n ih =>
    intro i f hi fa fd F
    have hf := hok f (List.mem_of_getElem? hi)
    simp only [FnS.ok, Bool.and_eq_true, beq_iff_eq] at hf
    obtain ⟨⟨⟨h1, h2⟩, h3⟩, h4⟩ := hf
    refine fok_succ F (scopeB_ok h1) (by simp [hi]) h2 h3 fun cdv A outer s H E room gd => ?_
    have g : GX T (calls T.U (fdsOf fs) n) (cAof K) n (cxOf (L2.CX P w) P w K mg base f.N f.x (defScope f.st) fa cdv A outer s H E) := by
      refine ⟨rfl, gd, room, tb.bl, tb.dat, tb.dic, fun j x ps e => ?_, fun c hc => (tb.exs c hc).at, tb.err, rfl⟩
      rw [hT, List.getElem?_map] at e
      obtain ⟨f', e1, e2⟩ := map_some e
      cases e2
      obtain ⟨ga, gdt, k1, k2, k3, k4, k5⟩ := hat f' (List.mem_of_getElem? e1)
      have ek : kwOf T j = f'.kw := by unfold kwOf; rw [hK, List.getD_eq_getElem?_getD, List.getElem?_map, e1]; rfl
      rw [ek]
      exact ⟨⟨ga, gdt, k1, k2.kp, ih j f' e1 ga gdt k2, k3, k4, k5⟩, calls_len hok e1⟩
    exact chkTs_ok _ _ _ h4 g ⟨rfl, (scopeB_ok h1).nd, rfl, fun _ _ => rfl⟩ ⟨passes_of rfl, rfl, rfl, rfl⟩
end

/-! ### the law at the heap behind the module -/
theorem ints_dp {K : Frg} {G : Hp} : ∀ ns : List Int, DpAll K G (ns.map V.int) (ns.map PyData.int)
  | [] => .nil
  | n :: ns => .cons (.int n) (ints_dp ns)
/-- what is tracked at first: the script, or nothing where the module has it -/
theorem first_hp {P : Program} {w : World} {K : Frg} {h : Heap} {a : Addr} {vs : List Value} {ns : List Int} (inK : K.In h) (ha : h.get? a = some { cls := .type "list", data := .seq vs.toArray }) (hi : IntsAre vs ns) (hl : ns.length ≤ sizeLine) :
    ∃ H : Hp, HOk P w H h ∧ SqL K H a (ns.map V.int) ∧ ∀ b, H b = none ∨ (b = a ∧ K.lookup b = none ∧ ∃ o u, H b = some (.frz o u)) := by
  cases q : K.lookup a with
  | none =>
    refine ⟨fun b => if b = a then some (.frz { cls := .type "list", data := .seq vs.toArray } (.lst (ns.map V.int))) else none, fun b u e => ?_, .inl (.inr ⟨_, if_pos rfl⟩), fun b => ?_⟩
    · by_cases z : b = a
      · subst z
        simp only [if_pos] at e
        cases e
        exact ⟨ha, by rw [List.length_map]; exact hl, vs, _, vals_ints hi, ha⟩
      · simp only [if_neg z] at e; cases e
    · by_cases z : b = a
      · exact .inr ⟨z, z ▸ q, _, _, if_pos z⟩
      · exact .inl (if_neg z)
  | some o =>
    have e := inK a o q
    rw [ha] at e; cases e
    refine ⟨Hp0, fun b u e => (by unfold Hp0 at e; cases e), .inr ⟨_, vs.toArray, _, q, rfl, rfl, rfl, ?_, by simpa using vals_ints hi⟩, fun b => .inl rfl⟩
    rw [List.size_toArray, hi.length]; exact hl
theorem law_at {P : Program} {w : World} {K : Frg} {mg mb : Str → Option Value} {n i : Nat} {C : Calls} {cA : Nat → Addr} {fa a : Addr} {fd : FuncData} {x : Str} {s₁ : Shared} {vs : List Value} {ns : List Int}
    (inK : K.In s₁.heap) (ng : s₁.heap.Ns mainGlobals mg) (nb : s₁.heap.Ns builtinsNs mb) (boot : ∀ y : Str, y ≠ "__name__" → mb y = bootBuiltins y) (nolim : s₁.heap.NoLimit) (nogen : s₁.gens = #[])
    (ha : s₁.heap.get? a = some { cls := .type "list", data := .seq vs.toArray }) (hi : IntsAre vs ns) (hl : ns.length ≤ sizeLine) (room : Room (n + 3) callerA)
    (F : ∀ base : Heap, K.In base → base.Ns mainGlobals mg → FOk P w K mg base n fa fd [x] (SpF K cA C 1 i)) (bound : ∀ (s : Shared) (u : Value), BindsTo s fd ⟨[u], []⟩ [(x, u)])
    (law : ∃ fin, C i [.d (.list (ns.map .int))] = .ret (.d (.bool true)) fin) :
    codeAny (model P w) callerA (.call (.ref fa) ⟨[.ref a], []⟩) (fun r s' => r = .ok (.ret (.bool true)) ∧ OldK s₁.heap s'.heap ∧ s'.os = s₁.os ∧ AllBare s'.gens) s₁ := by
  obtain ⟨H, hok, hS, only⟩ := first_hp (P := P) (w := w) inK ha hi hl
  have toB : ∀ {b : Addr} {o : Obj}, s₁.heap.get? b = some o → (b = a → K.lookup a ≠ none) → (hidT s₁.heap H).get? b = some o := fun {b o} e z => by
    rcases only b with q | ⟨q1, q2, _⟩
    · exact hidT_get e q
    · subst q1; exact absurd q2 (z rfl)
  have dictB : ∀ {b : Addr} {m : Str → Option Value}, s₁.heap.Ns b m → (hidT s₁.heap H).Ns b m := by
    rintro b m ⟨o, es, ep, e, d, r⟩
    refine ⟨o, es, ep, toB e fun z => ?_, d, r⟩
    subst z
    rw [ha] at e; cases e; cases d
  have baseK : K.In (hidT s₁.heap H) := fun b o e => toB (inK b o e) fun z q => by rw [z, q] at e; cases e
  obtain ⟨mc, c1, c2⟩ := nolim
  have env : Env0 P w K mg (hidT s₁.heap H) callerA [] s₁ H :=
    ⟨rfl, ⟨baseK, dictB ng, ⟨mb, dictB nb, boot⟩, ⟨mc, dictB c1, c2⟩⟩, fun _ _ e => of_hidT e, Nat.le_of_eq (hidT_size _ _), trivial, fun _ hb => (nomatch hb), hok, .of_eq nogen⟩
  obtain ⟨fin, law⟩ := law
  have want : SpF K cA C 1 i [.ref a] H (fun v _ => v = .bl true) fun _ _ _ => False := by
    refine ⟨H, [.d (.list (ns.map .int))], rfl, Sub.rfl, .cons (.lst hS (ints_dp ns)) .nil, fun j k b c c' _ e _ _ => ?_, ?_⟩
    · cases j with
      | zero => simp at e
      | succ j => simp at e
    · rw [law]
      intro v G' H' _ _ r
      cases r; rfl
  refine codeAny_mono ((F _ baseK (dictB ng)).run callerA [] s₁ H ⟨[.ref a], []⟩ [.ref a] [.ref a] _ _ room rfl env (bound s₁ (.ref a)) (.cons rfl .nil) want) fun r s' res => ?_
  cases r with
  | error e =>
    obtain ⟨_, _, _, _, _, _, _, _, _, _, _, _, z⟩ := res
    exact z.elim
  | ok fl =>
    cases fl with
    | next => exact res.elim
    | brk => exact res.elim
    | cont => exact res.elim
    | ret u =>
      obtain ⟨v, H', sameOs, allBare, un, hok', ru, rfl⟩ := res
      cases ru
      refine ⟨rfl, OldK.of_keep fun b o e => ?_, sameOs, allBare⟩
      rcases only b with q | ⟨_, _, ob, u, q⟩
      · exact un.keep b o e q (fun z => (nomatch z)) (fun z => (nomatch z))
      · have k1 := (hok b _ q).1
        have k2 := (hok' b _ (un.frzs b ob u q)).1
        rw [e] at k1; cases k1
        exact k2
theorem walkE {l : PySem.W.OpenLaw} {m n i : Nat} {q : Program} {loose : List Str} {XP : (Str → Option Value) → Heap → Prop} {YP : World → Heap → Prop} {d : DefRec} {K : Params → Frg} {C : Calls} {cA : Params → Nat → Addr} {x : Str}
    (hn : l.most = some m) (hm : m ≤ sizeLine) (hdf : d.params.defaults = []) (room : Room (n + 3) callerA) (hY : ∀ (w : World) (h : Heap), YP w h → (K w.params).In h)
    (F : ∀ (w : World) (mg : Str → Option Value) (fa : Addr) (h : Heap), (K w.params).In h → h.Ns mainGlobals mg → mg d.name = some (.ref fa) →
      ∃ fd : FuncData, (∀ (s : Shared) (u : Value), BindsTo s fd ⟨[u], []⟩ [(x, u)]) ∧ ∀ base : Heap, (K w.params).In base → base.Ns mainGlobals mg → FOk l.prog w (K w.params) mg base n fa fd [x] (SpF (K w.params) (cA w.params) C 1 i))
    (law : ∀ ns : List Int, ns.length ≤ m → (∀ z ∈ ns, Builtin.Int.intBits z ≤ 1048576) → ∃ fin, C i [.d (.list (ns.map .int))] = .ret (.d (.bool true)) fin) :
    PySem.W.WalkO q loose XP YP l.row.toRowW d [] (fun f vs => PySem.call f vs) := by
  refine Att.attach_callB hn hdf fun w s₀ s₁ mg mb fa o pm cd doc a vs ns G Y ho hd hcd hmg hobj hints hlen hbits hg => ?_
  have inK := hY w _ Y
  obtain ⟨fd, bound, hF⟩ := F w mg fa _ inK G.T.g hmg
  exact law_at inK G.T.g G.T.b G.T.builtins G.T.nolimit hg hobj hints (Nat.le_trans hlen hm) room hF bound (law ns hlen hbits)
end Ev

set_option Elab.async false
set_option linter.all false
set_option maxRecDepth 100000
/-! What the module's heap tells of defs and constants. -/
namespace Ev
open PySem PySem.Spec PyProof.Rows L2

/-! a constant of the module, read -/
mutual
def rdK (K : Frg) : Nat → Value → Option PyData
  | 0, _ => none
  | _ + 1, .none => some .none
  | _ + 1, .bool b => some (.bool b)
  | _ + 1, .int i _ => some (.int i)
  | _ + 1, .str x _ => some (.str x)
  | n + 1, .ref a => match K.lookup a with
    | some ⟨.type c, none, .seq its _, _⟩ => if decide (c = "tuple") && decide (its.size ≤ 1000) then (rdKs K n its.toList).map .tuple else if decide (c = "list") && decide (its.size ≤ 1000) then (rdKs K n its.toList).map .list else none
    | _ => none
  | _ + 1, _ => none
def rdKs (K : Frg) : Nat → List Value → Option (List PyData)
  | 0, _ => none
  | _ + 1, [] => some []
  | n + 1, u :: us => match rdK K n u, rdKs K n us with
    | some d, some ds => some (d :: ds)
    | _, _ => none
end
mutual
theorem rdK_ok {K : Frg} : ∀ (n : Nat) (u : Value) (d : PyData), rdK K n u = some d → ∃ v, RelV v u ∧ Dp K Hp0 v d
  | 0, u, d, h => by simp [rdK] at h
  | n + 1, u, d, h => by
    cases u with
    | none => simp only [rdK] at h; cases h; exact ⟨.non, rfl, .non⟩
    | bool b => simp only [rdK] at h; cases h; exact ⟨.bl b, rfl, .bl b⟩
    | int i t => simp only [rdK] at h; cases h; exact ⟨.int i, ⟨t, rfl⟩, .int i⟩
    | str x t => simp only [rdK] at h; cases h; exact ⟨.str x, ⟨t, rfl⟩, .str x⟩
    | ref a =>
      simp only [rdK] at h
      split at h
      · rename_i c its m sl e
        split at h
        · rename_i q
          simp only [Bool.and_eq_true, decide_eq_true_eq] at q
          obtain ⟨ds, e1, rfl⟩ := map_some h
          obtain ⟨vs, r, dd⟩ := rdKs_ok n _ _ e1
          obtain ⟨rfl, hz⟩ := q
          exact ⟨.ref a, rfl, .tup (.inr ⟨_, its, m, e, rfl, rfl, Nat.le_trans hz (by decide), r⟩) dd⟩
        · split at h
          · rename_i q
            simp only [Bool.and_eq_true, decide_eq_true_eq] at q
            obtain ⟨ds, e1, rfl⟩ := map_some h
            obtain ⟨vs, r, dd⟩ := rdKs_ok n _ _ e1
            obtain ⟨rfl, hz⟩ := q
            exact ⟨.ref a, rfl, .lst (.inr ⟨_, its, m, e, rfl, rfl, rfl, Nat.le_trans hz (by decide), r⟩) dd⟩
          · cases h
      · cases h
    | _ => simp [rdK] at h
theorem rdKs_ok {K : Frg} : ∀ (n : Nat) (us : List Value) (ds : List PyData), rdKs K n us = some ds → ∃ vs, Vals vs us ∧ DpAll K Hp0 vs ds
  | 0, us, ds, h => by simp [rdKs] at h
  | n + 1, [], ds, h => by simp only [rdKs] at h; cases h; exact ⟨[], .nil, .nil⟩
  | n + 1, u :: us, ds, h => by
    simp only [rdKs] at h
    split at h
    · rename_i d ds' e1 e2
      cases h
      obtain ⟨v, r, dd⟩ := rdK_ok n u d e1
      obtain ⟨vs, rs, dds⟩ := rdKs_ok n us ds' e2
      exact ⟨v :: vs, .cons r rs, .cons dd dds⟩
    · cases h
end
/-- a dict with text keys: its entries -/
def dicE (K : Frg) (a : Addr) : Option (List (Str × Value)) := match K.lookup a with
  | some ⟨_, _, .dict es _, _⟩ => es.toList.mapM fun e => match e.key with
    | .str x _ => some (x, e.val)
    | _ => none
  | _ => none
def valsB (K : Frg) : List (Str × Value) → List (Str × PyData) → Bool
  | [], [] => true
  | (x, u) :: r, (y, d) :: s => (x == y) && (match rdK K 40 u with | some d' => eqD d' d | none => false) && valsB K r s
  | _, _ => false
where
  eqD : PyData → PyData → Bool := fun a b => decide (a.depth = b.depth) && beqD 40 a b
  beqD : Nat → PyData → PyData → Bool
    | 0, _, _ => false
    | n + 1, a, b => match a, b with
      | .none, .none => true
      | .bool x, .bool y => x == y
      | .int x, .int y => x == y
      | .str x, .str y => x == y
      | .list xs, .list ys => xs.length == ys.length && (xs.zip ys).all fun p => beqD n p.1 p.2
      | .tuple xs, .tuple ys => xs.length == ys.length && (xs.zip ys).all fun p => beqD n p.1 p.2
      | _, _ => false
theorem beqD_ok : ∀ (n : Nat) (a b : PyData), valsB.beqD n a b = true → a = b
  | 0, _, _, h => by simp [valsB.beqD] at h
  | n + 1, a, b, h => by
    have rows : ∀ xs ys : List PyData, (xs.length == ys.length && (xs.zip ys).all fun p => valsB.beqD n p.1 p.2) = true → xs = ys := by
      intro xs
      induction xs with
      | nil => intro ys h; cases ys with
        | nil => rfl
        | cons _ _ => simp at h
      | cons x xs ih =>
        intro ys h
        cases ys with
        | nil => simp at h
        | cons y ys =>
          simp only [List.length_cons, List.zip_cons_cons, List.all_cons, Bool.and_eq_true, beq_iff_eq, Nat.add_right_cancel_iff] at h
          rw [beqD_ok n x y h.2.1, ih ys (by simp [h.1, h.2.2])]
    unfold valsB.beqD at h
    split at h
    · rfl
    · rw [beq_iff_eq.mp h]
    · rw [beq_iff_eq.mp h]
    · rw [beq_iff_eq.mp h]
    · rw [rows _ _ h]
    · rw [rows _ _ h]
    · cases h
theorem lookup_vals {K : Frg} : ∀ {es : List (Str × Value)} {kvs : List (Str × PyData)}, valsB K es kvs = true → ∀ z : Str, match kvs.lookup z with
    | some d => ∃ u v, es.lookup z = some u ∧ RelV v u ∧ Dp K Hp0 v d
    | none => es.lookup z = none
  | [], [], _, z => rfl
  | [], _ :: _, h, _ => by simp [valsB] at h
  | _ :: _, [], h, _ => by simp [valsB] at h
  | (x, u) :: r, (y, d) :: s, h, z => by
    simp only [valsB, Bool.and_eq_true, beq_iff_eq] at h
    obtain ⟨⟨rfl, h2⟩, h3⟩ := h
    have ih := lookup_vals h3 z
    simp only [List.lookup_cons]
    cases q : z == x with
    | false => exact ih
    | true =>
      simp only
      split at h2
      · rename_i d' e
        simp only [valsB.eqD, Bool.and_eq_true] at h2
        have := beqD_ok _ _ _ h2.2
        subst this
        obtain ⟨v, r1, r2⟩ := rdK_ok _ _ _ e
        exact ⟨u, v, rfl, r1, r2⟩
      · cases h2
theorem ns_of_dicE {K : Frg} {a : Addr} {es : List (Str × Value)} (h : dicE K a = some es) (z : Str) : PySem.W.nsIn K a z = some (es.lookup z) := by
  unfold dicE at h
  unfold PySem.W.nsIn
  split at h
  · rename_i oc od es' n sl e
    rw [e]
    simp only
    clear e
    revert es
    induction es'.toList with
    | nil => intro es h; simp at h; subst h; rfl
    | cons q r ih =>
      intro es h
      rw [List.mapM_cons] at h
      obtain ⟨qh, qk, qv⟩ := q
      cases qk with
      | str x t =>
        simp only at h
        cases m : (r.mapM fun e : DictEntry => match e.key with | .str x _ => some (x, e.val) | _ => none : Option (List (Str × Value))) with
        | none => rw [m] at h; cases h
        | some es2 =>
          rw [m] at h; cases h
          have ih := ih m
          have hs : Value.isStr (.str x t) z = (x == z) := rfl
          by_cases hx : x = z
          · subst hx
            rw [List.find?_cons_of_pos (by rw [hs]; simp)]
            simp
          · have h1 : (x == z) = false := by simpa using hx
            have h2 : (z == x) = false := by simpa using fun q => hx q.symm
            rw [List.find?_cons_of_neg (by rw [hs, h1]; simp), List.lookup_cons, h2, List.any_cons]
            exact ih
      | _ => cases h
  · cases h
/-- .. of the module -/
def dicB (K : Frg) (a : Addr) (kvs : List (Str × PyData)) : Bool := match dicE K a with
  | some es => valsB K es kvs
  | none => false
def DicIn (K : Frg) (P : Params) (x : Str) (kvs : List (Str × PyData)) : Prop := ∃ a, PySem.W.nsIn K mainGlobals x = some (some (.ref a)) ∧ He.dicW K a = some (He.keysIn P (kvs.map (·.1))) ∧ dicB K a kvs = true
theorem DicIn.at {K : Frg} {w : World} {x : Str} {kvs : List (Str × PyData)} {h : Heap} {mg : Str → Option Value} (X : K.In h) (G : h.Ns mainGlobals mg) (d : DicIn K w.params x kvs) : ∃ a, mg x = some (.ref a) ∧ DicAt K w a kvs := by
  obtain ⟨a, h1, h2, h5⟩ := d
  unfold dicB at h5
  split at h5
  · rename_i es h3
    refine ⟨a, PySem.W.mg_of X G h1, He.dicW_ok h2, fun z => ?_⟩
    have q := lookup_vals h5 z
    have r := ns_of_dicE h3 z
    cases e : kvs.lookup z with
    | none => rw [e] at q; rw [r]; exact congrArg some q
    | some d =>
      rw [e] at q
      obtain ⟨u, v, q1, q2, q3⟩ := q
      exact ⟨u, v, by rw [r, q1], q2, q3⟩
  · cases h5
theorem dicIn_mk {K : Frg} {P : Params} {x : Str} {kvs : List (Str × PyData)} {a : Addr} (h1 : PySem.W.nsIn K mainGlobals x = some (some (.ref a))) (h2 : He.dicW K a = some (He.keysIn P (kvs.map (·.1)))) (h3 : dicB K a kvs = true) : DicIn K P x kvs := ⟨a, h1, h2, h3⟩
/-- a constant -/
def DatIn (K : Frg) (x : Str) (d : PyData) : Prop := ∃ u, PySem.W.nsIn K mainGlobals x = some (some u) ∧ rdK K 60 u = some d
theorem DatIn.at {K : Frg} {x : Str} {d : PyData} {h : Heap} {mg : Str → Option Value} (X : K.In h) (G : h.Ns mainGlobals mg) (q : DatIn K x d) : ∃ u v, mg x = some u ∧ RelV v u ∧ Dp K Hp0 v d := by
  obtain ⟨u, h1, h2⟩ := q
  obtain ⟨v, r, dd⟩ := rdK_ok _ _ _ h2
  exact ⟨u, v, PySem.W.mg_of X G h1, r, dd⟩
theorem datIn_mk {K : Frg} {x : Str} {d : PyData} {u : Value} (h1 : PySem.W.nsIn K mainGlobals x = some (some u)) (h2 : rdK K 60 u = some d) : DatIn K x d := ⟨u, h1, h2⟩
/-- a def of the module -/
structure FnIn (K : Frg) (f : FnS) : Prop where
  ex : ∃ (fa : Addr) (oc : Value) (od an : Option Addr) (osl : Array (Option Value)) (kV doc pm cdv ct : Value), PySem.W.nsIn K mainGlobals f.x = some (some (.ref fa)) ∧
    K.lookup fa = some ⟨oc, od, .func (PySem.W.fnOf f.x f.x (defArgs f.st) (defBody f.st) (defScope f.st) .none kV doc pm an cdv ct), osl⟩ ∧ PySem.W.codeIn K cdv f.x = true ∧ PySem.W.keepIn K (.ref fa) = true
theorem fnIn_mk {K : Frg} {f : FnS} {fa : Addr} {oc : Value} {od an : Option Addr} {osl : Array (Option Value)} {kV doc pm cdv ct : Value} (a : PySem.W.nsIn K mainGlobals f.x = some (some (.ref fa)))
    (l : K.lookup fa = some ⟨oc, od, .func (PySem.W.fnOf f.x f.x (defArgs f.st) (defBody f.st) (defScope f.st) .none kV doc pm an cdv ct), osl⟩) (c : PySem.W.codeIn K cdv f.x = true) (k : PySem.W.keepIn K (.ref fa) = true) : FnIn K f := ⟨⟨fa, oc, od, an, osl, kV, doc, pm, cdv, ct, a, l, c, k⟩⟩
/-- how it is called -/
def BindsF (f : FnS) : Prop := ∀ (kV doc pm : Value) (an : Option Addr) (cdv ct : Value) (us : List Value), us.length = f.ps.length →
  bindArgs (PySem.W.fnOf f.x f.x (defArgs f.st) (defBody f.st) (defScope f.st) .none kV doc pm an cdv ct) ⟨us, []⟩ = pure (f.ps.zip us) ∧ bindArgs (PySem.W.fnOf f.x f.x (defArgs f.st) (defBody f.st) (defScope f.st) .none kV doc pm an cdv ct) ⟨[], f.ps.zip us⟩ = pure (f.ps.zip us)
/-- .. with names in orders of their own -/
def BindsW (f : FnS) (v : Nat × List Nat) : Prop := ∀ (kV doc pm : Value) (an : Option Addr) (cdv ct : Value) (us ws : List Value), us.length = v.1 → us.length + ws.length = (List.range v.1 ++ v.2).length →
  bindArgs (PySem.W.fnOf f.x f.x (defArgs f.st) (defBody f.st) (defScope f.st) .none kV doc pm an cdv ct) ⟨us, (v.2.map fun i => f.ps.getD i "").zip ws⟩ = pure (f.ps.zip (reord (List.range v.1 ++ v.2) (us ++ ws)))
theorem FnIn.at {K : Frg} {f : FnS} {h : Heap} {mg : Str → Option Value} (X : K.In h) (G : h.Ns mainGlobals mg) (q : FnIn K f) (b : BindsF f) (bw : ∀ v ∈ f.kw, BindsW f v) : FnAt K mg f := by
  obtain ⟨fa, oc, od, an, osl, kV, doc, pm, cdv, ct, a, l, c, k⟩ := q.ex
  exact ⟨fa, _, PySem.W.mg_of X G a, fun_mk l c k, fun s us hl => .of_eq (b kV doc pm an cdv ct us hl).1, fun s us hl => .of_eq (b kV doc pm an cdv ct us hl).2, fun v hv s us ws h1 h2 => .of_eq (bw v hv kV doc pm an cdv ct us ws h1 h2)⟩
theorem all_cons {α : Type} {P : α → Prop} {a : α} {l : List α} (h : P a) (t : ∀ x ∈ l, P x) : ∀ x ∈ a :: l, P x := fun x hx => by
  rcases List.mem_cons.mp hx with e | e
  · rw [e]; exact h
  · exact t x e
theorem all_nil {α : Type} {P : α → Prop} : ∀ x ∈ ([] : List α), P x := fun x hx => (nomatch hx)
/-! the classes of errors -/
def errB (K : Frg) (C fI : Addr) : Bool :=
  decide (PySem.W.findIn K (.ref C) "__setattr__" = some (some (.builtin "object.__setattr__"))) && (decide (PySem.W.subIn K (.ref C) (.type "BaseException") = some true) && (decide (PySem.W.typeIn K (.ref C) = some (.type "type")) && (PySem.W.keepIn K (.ref C) &&
  (decide (PySem.W.findIn K (.ref C) "value" = some none) && (decide (PySem.W.findIn K (.ref C) "__getattribute__" = some (some (.builtin "BaseException.__getattribute__"))) && (decide (PySem.W.findIn K (.ref C) "__getattr__" = some none) && (PySem.W.hasDictIn K C &&
  (decide (PySem.W.findIn K (.ref C) "__class__" = some (some (.builtin "object.__class__"))) && (decide (PySem.W.specialIn K (.builtin "object.__class__") "__get__" = some (some (.builtin "getset_descriptor.__get__"))) && (decide (PySem.W.takesIn K (.builtin "object.__class__") = some true) &&
  (decide (PySem.W.mroIn K C (.type "object") = some true) && (decide (PySem.W.kitOne K (.ref C) (.type "ValueError") = some true) && (tyNames.all (fun t => decide (PySem.W.kitOne K (.type t) (.ref C) = some false)) && (decide (PySem.W.findIn K (.ref C) "__init__" = some (some (.ref fI))) &&
  (decide (PySem.W.typeIn K (.ref fI) = some (.type "function")) && PySem.W.keepIn K (.ref fI))))))))))))))))
/-- how the __init__ is called -/
def BindsI (q : Str) (st : Stmt) : Prop := ∀ (kV doc pm : Value) (an : Option Addr) (cdv ct : Value) (us : List Value), us.length = 2 →
  bindArgs (PySem.W.fnOf "__init__" q (defArgs st) (defBody st) (defScope st) .none kV doc pm an cdv ct) ⟨us, []⟩ = pure ((["self", "value"] : List Str).zip us)
structure ErrIn (K : Frg) (st : Stmt) (c : Nat) : Prop where
  ex : ∃ (x q : Str) (C fI : Addr) (oc : Value) (od an : Option Addr) (osl : Array (Option Value)) (kV doc pm cdv ct : Value), excNames[c]? = some x ∧ PySem.W.nsIn K mainGlobals x = some (some (.ref C)) ∧
    (∃ nm q N bs bm sn sub ab col dd k0 k1 k2 k3 k5, K.lookup C = some (excClassObj nm q C N bs bm true sn sub ab col dd k0 k1 k2 k3 k5 "ValueError.__new__") ∧ PySem.HandSPX.refsVE bm = true) ∧ errB K C fI = true ∧
    K.lookup fI = some ⟨oc, od, .func (PySem.W.fnOf "__init__" q (defArgs st) (defBody st) (defScope st) .none kV doc pm an cdv ct), osl⟩ ∧ PySem.W.codeIn K cdv q = true ∧ BindsI q st
  ini : IsInit st
  ve : PySem.W.nsIn K mainGlobals "ValueError" = some none
  vV : PySem.W.findCls K (.type "ValueError") (.type "type") "__init__" = some (.val (.builtin "ValueError.__init__"))
theorem errIn_mk {K : Frg} {st : Stmt} {c : Nat} {x q : Str} {C fI : Addr} {oc : Value} {od an : Option Addr} {osl : Array (Option Value)} {kV doc pm cdv ct : Value} {nm q' N bs bm sn sub ab col dd k0 k1 k2 k3 k5}
    (hx : excNames[c]? = some x) (a : PySem.W.nsIn K mainGlobals x = some (some (.ref C))) (l : K.lookup C = some (excClassObj nm q' C N bs bm true sn sub ab col dd k0 k1 k2 k3 k5 "ValueError.__new__")) (r : PySem.HandSPX.refsVE bm = true)
    (i : PySem.W.findIn K (.ref C) "__init__" = some (some (.ref fI))) (m : K.lookup fI = some ⟨oc, od, .func (PySem.W.fnOf "__init__" q (defArgs st) (defBody st) (defScope st) .none kV doc pm an cdv ct), osl⟩) (cd : PySem.W.codeIn K cdv q = true) (e : errB K C fI = true)
    (b : BindsI q st) (ini : IsInit st) (ve : PySem.W.nsIn K mainGlobals "ValueError" = some none) (vV : PySem.W.findCls K (.type "ValueError") (.type "type") "__init__" = some (.val (.builtin "ValueError.__init__"))) : ErrIn K st c :=
  ⟨⟨x, q, C, fI, oc, od, an, osl, kV, doc, pm, cdv, ct, hx, a, ⟨nm, q', N, bs, bm, sn, sub, ab, col, dd, k0, k1, k2, k3, k5, l, r⟩, e, m, cd, b⟩, ini, ve, vV⟩
theorem ErrIn.c {K : Frg} {st : Stmt} {c : Nat} (h : ErrIn K st c) : exA K c (cAof K c) ∧ ErrC K (cAof K c) := by
  obtain ⟨x, q, C, fI, oc, od, an, osl, kV, doc, pm, cdv, ct, hx, a, l, e, m, cd, b⟩ := h.ex
  have ea : exA K c C := ⟨x, hx, a⟩
  have eC := cA_of ea
  subst eC
  simp only [errB, Bool.and_eq_true, decide_eq_true_eq, List.all_eq_true] at e
  obtain ⟨e1, e2, e3, e4, e5, e6, e7, e8, e9, e10, e11, e12, e13, e14, e15, e16, e17⟩ := e
  exact ⟨ea, ⟨l, e1, e2, e3, e4⟩, e5, ⟨e6, e7, e2, e8, e9, e10, e11, e12⟩, e13, e14⟩
theorem ErrIn.m {K : Frg} {st : Stmt} {c : Nat} {h : Heap} {mg : Str → Option Value} (X : K.In h) (G : h.Ns mainGlobals mg) (q : ErrIn K st c) : ErrM K mg c := by
  obtain ⟨ea, ec⟩ := q.c
  obtain ⟨x, qn, C, fI, oc, od, an, osl, kV, doc, pm, cdv, ct, hx, a, l, e, m, cd, b⟩ := q.ex
  have eC := cA_of ⟨x, hx, a⟩
  subst eC
  simp only [errB, Bool.and_eq_true, decide_eq_true_eq, List.all_eq_true] at e
  obtain ⟨e1, e2, e3, e4, e5, e6, e7, e8, e9, e10, e11, e12, e13, e14, e15, e16, e17⟩ := e
  exact ⟨⟨x, hx, PySem.W.mg_of X G a, ea⟩, ec, ⟨fI, _, st, qn, e15, e16, fun_mk m cd e17, q.ini, Binds.all fun us hl => b kV doc pm an cdv ct us hl⟩, PySem.W.mg_none_of X G q.ve, q.vV⟩
def allB (K : Frg) (es : List Nat) : Bool := (List.range 26).all fun c => es.contains c || (match excNames[c]? with
  | some x => decide (PySem.W.nsIn K mainGlobals x = some none)
  | none => true)
def subB (K : Frg) (es : List Nat) : Bool := es.all fun c => es.all fun c' => decide (PySem.W.exmOne K (.ref (cAof K c')) (.ref (cAof K c)) = some (excSub c' c)) && decide (PySem.W.kitOne K (.ref (cAof K c')) (.ref (cAof K c)) = some (excSub c' c))
theorem errs_mk {K : Frg} {es : List Nat} {st : Stmt} (h1 : allB K es = true) (h2 : subB K es = true) (h3 : ∀ c ∈ es, ErrIn K st c) : ErrsIn K es := by
  refine ⟨fun c C ⟨nm, e1, e2⟩ => ?_, fun c hc => (h3 c hc).c.2, fun c hc c' hc' => ?_⟩
  · have hl : c < 26 := (List.getElem?_eq_some_iff.mp e1).1
    have := List.all_eq_true.mp h1 c (List.mem_range.mpr hl)
    rw [e1] at this
    simp only [Bool.or_eq_true, decide_eq_true_eq, List.contains_eq_mem] at this
    rcases this with z | z
    · exact z
    · rw [e2] at z; cases z
  · have := List.all_eq_true.mp (List.all_eq_true.mp h2 c hc) c' hc'
    simp only [Bool.and_eq_true, decide_eq_true_eq] at this
    exact this
/-- all that is asked of the module -/
structure TopIn (K : Frg) (P : Params) (T : Tb) (fs : List FnS) (st : Stmt) : Prop where
  fns : ∀ f ∈ fs, FnIn K f
  bls : ∀ x ∈ T.bls, PySem.W.nsIn K mainGlobals x = some none
  dat : ∀ p ∈ T.dat, DatIn K p.1 p.2
  dic : ∀ p ∈ T.dic, DicIn K P p.1 p.2
  exs : ∀ c ∈ T.exs, ErrIn K st c
  all : allB K T.exs = true
  sub : subB K T.exs = true
theorem TopIn.tb {K : Frg} {w : World} {T : Tb} {fs : List FnS} {st : Stmt} {h : Heap} {mg : Str → Option Value} (X : K.In h) (G : h.Ns mainGlobals mg) (t : TopIn K w.params T fs st) : TbAt K w mg T :=
  ⟨fun x hx => PySem.W.mg_none_of X G (t.bls x hx), fun j x d e => (t.dat (x, d) (List.mem_of_getElem? e)).at X G, fun j x kvs e => (t.dic (x, kvs) (List.mem_of_getElem? e)).at X G, fun c hc => (t.exs c hc).m X G, errs_mk t.all t.sub t.exs⟩
/-- THE WALK of a law without exceptions -/
theorem walkT {l : PySem.W.OpenLaw} {m n i : Nat} {q : Program} {loose : List Str} {XP : (Str → Option Value) → Heap → Prop} {YP : World → Heap → Prop} {d : DefRec} {K : Params → Frg} {T : Tb} {fs : List FnS} {f : FnS} {x : Str} {st : Stmt}
    (hn : l.most = some m) (hm : m ≤ sizeLine) (hdf : d.params.defaults = []) (room : Room (n + 3) callerA) (hY : ∀ (w : World) (h : Heap), YP w h → (K w.params).In h)
    (hT : T.fns = fs.map fun f => (f.x, f.ps)) (hK : T.kws = fs.map (·.kw)) (hok : fs.all (FnS.ok T) = true) (hb : ∀ f ∈ fs, BindsF f) (hw : ∀ f ∈ fs, ∀ v ∈ f.kw, BindsW f v) (hi : fs[i]? = some f) (hx : f.ps = [x]) (hd : d.name = f.x) (top : ∀ w : World, TopIn (K w.params) w.params T fs st)
    (law : ∀ ns : List Int, ns.length ≤ m → (∀ z ∈ ns, Builtin.Int.intBits z ≤ 1048576) → ∃ fin, calls T.U (fdsOf fs) n i [.d (.list (ns.map .int))] = .ret (.d (.bool true)) fin) :
    PySem.W.WalkO q loose XP YP l.row.toRowW d [] (fun f vs => PySem.call f vs) := by
  refine walkE (C := calls T.U (fdsOf fs) n) (cA := fun p => cAof (K p)) (x := x) hn hm hdf room hY (fun w mg fa h X G e => ?_) law
  have ok : ∀ f ∈ fs, FnS.ok T f = true := fun f hf => List.all_eq_true.mp hok f hf
  have at_ : ∀ f ∈ fs, FnAt (K w.params) mg f := fun f hf => ((top w).fns f hf).at X G (hb f hf) (hw f hf)
  obtain ⟨ga, fd, k1, k2, k3, _⟩ := at_ f (List.mem_of_getElem? hi)
  rw [hd] at e
  rw [e] at k1; cases k1
  refine ⟨fd, fun s u => ?_, fun base _ _ => ?_⟩
  · have := k3 s [u] (by rw [hx]; rfl)
    rw [hx] at this; exact this
  · have := all_fok (P := l.prog) (w := w) (base := base) hT hK ((top w).tb X G) ok at_ n i f hi fa fd k2
    rw [hx] at this; exact this
end Ev

set_option Elab.async false
set_option linter.all false
set_option maxRecDepth 100000
/-! The evaluator's equations, for simp. -/
namespace Ev
open PySem
section
variable {U : Consts} {C : Calls} {ρ : Rho} {x : PyData} {i j : Nat} {e a b c : Ex} {op o1 o2 : CmpOp} {neg : Bool} {es r lo hi : Exs} {f : Nat} {as : As} {T : Ty} {is : List Nat} {k : Ex}
@[simp 900] theorem evE_q0 : evE U C (.lit x) ρ = (.ok (.d x) ρ) := by first | rfl | (rw [evE]; done) | (rw [evE]; congr)
@[simp 900] theorem evE_q1 : evE U C (.var i) ρ = (match get ρ i with
    | .d x => .ok (.d x) ρ
    | .o _ _ _ => .ok (.b i) ρ
    | .x c v => .ok (.x c v) ρ
    | .no => .stuck) := by first | rfl | (rw [evE]; done) | (rw [evE]; congr)
@[simp 900] theorem evE_q2 : evE U C (.glob j) ρ = (Out.of ρ ((U.dat[j]?).map .d)) := by first | rfl | (rw [evE]; done) | (rw [evE]; congr)
@[simp 900] theorem evE_q3 : evE U C (.gidx j e) ρ = ((evE U C e ρ).bind fun v ρ1 => match rd ρ1 v, U.dic[j]? with
    | some (.str x), some kvs => Out.of ρ1 ((kvs.lookup x).map .d)
    | _, _ => .stuck) := by first | rfl | (rw [evE]; done) | (rw [evE]; congr)
@[simp 900] theorem evE_q4 : evE U C (.gin neg j e) ρ = ((evE U C e ρ).bind fun v ρ1 => match rd ρ1 v, U.dic[j]? with
    | some (.str x), some kvs => .ok (.d (.bool (xor neg (kvs.lookup x).isSome))) ρ1
    | _, _ => .stuck) := by first | rfl | (rw [evE]; done) | (rw [evE]; congr)
@[simp 900] theorem evE_q5 {op : Operator} : evE U C (.bin op a b) ρ = ((evE U C a ρ).bind fun u ρ1 => match hold u with
    | none => .stuck
    | some u => (evE U C b ρ1).bind fun v ρ2 => match rd ρ2 u, rd ρ2 v with
      | some x, some y => Out.of ρ2 (binD op x y)
      | _, _ => .stuck) := by first | rfl | (rw [evE]; done) | (rw [evE]; congr)
@[simp 900] theorem evE_q6 : evE U C (.neg a) ρ = ((evE U C a ρ).bind fun u ρ1 => match u with
    | .d (.int i) => .ok (.d (.int (-i))) ρ1
    | _ => .stuck) := by first | rfl | (rw [evE]; done) | (rw [evE]; congr)
@[simp 900] theorem evE_q7 : evE U C (.cmp op a b) ρ = ((evE U C a ρ).bind fun u ρ1 => match hold u with
    | none => .stuck
    | some u => (evE U C b ρ1).bind fun v ρ2 => cmpO op ρ2 u v) := by first | rfl | (rw [evE]; done) | (rw [evE]; congr)
@[simp 900] theorem evE_q8 : evE U C (.chain o1 o2 a b c) ρ = ((evE U C a ρ).bind fun u ρ1 => match hold u with
    | none => .stuck
    | some u => (evE U C b ρ1).bind fun v ρ2 => match hold v with
      | none => .stuck
      | some v => match rd ρ2 u, rd ρ2 v with
        | some x, some y => match cmpD o1 x y with
          | none => .stuck
          | some false => .ok (.d (.bool false)) ρ2
          | some true => (evE U C c ρ2).bind fun w ρ3 => match rd ρ3 v, rd ρ3 w with
            | some y, some z => Out.of ρ3 ((cmpD o2 y z).map fun b => .d (.bool b))
            | _, _ => .stuck
        | _, _ => .stuck) := by first | rfl | (rw [evE]; done) | (rw [evE]; congr)
@[simp 900] theorem evE_q9 : evE U C (.band a r) ρ = ((asB (evE U C a ρ)).bind fun b ρ1 => if b then evAnd U C r ρ1 else .ok (.d (.bool false)) ρ1) := by first | rfl | (rw [evE]; done) | (rw [evE]; congr)
@[simp 900] theorem evE_q10 : evE U C (.bor a r) ρ = ((asB (evE U C a ρ)).bind fun b ρ1 => if b then .ok (.d (.bool true)) ρ1 else evOr U C r ρ1) := by first | rfl | (rw [evE]; done) | (rw [evE]; congr)
@[simp 900] theorem evE_q11 : evE U C (.lnot a) ρ = ((asB (evE U C a ρ)).bind fun b ρ1 => .ok (.d (.bool (!b))) ρ1) := by first | rfl | (rw [evE]; done) | (rw [evE]; congr)
@[simp 900] theorem evE_q12 : evE U C (.ite c a b) ρ = ((asB (evE U C c ρ)).bind fun t ρ1 => if t then evE U C a ρ1 else evE U C b ρ1) := by first | rfl | (rw [evE]; done) | (rw [evE]; congr)
@[simp 900] theorem evE_q13 : evE U C (.tup es) ρ = ((evals U C es ρ).bind fun xs ρ1 => if xs.length ≤ sizeLine then .ok (.d (.tuple xs)) ρ1 else .stuck) := by first | rfl | (rw [evE]; done) | (rw [evE]; congr)
@[simp 900] theorem evE_q14 : evE U C (.lst es) ρ = ((evals U C es ρ).bind fun xs ρ1 => if xs.length ≤ sizeLine then .ok (.o (.lst xs)) ρ1 else .stuck) := by first | rfl | (rw [evE]; done) | (rw [evE]; congr)
@[simp 900] theorem evE_q15 : evE U C (.idx a b) ρ = ((evE U C a ρ).bind fun u ρ1 => match hold u with
    | none => .stuck
    | some u => (evE U C b ρ1).bind fun v ρ2 => idxO ρ2 u v) := by first | rfl | (rw [evE]; done) | (rw [evE]; congr)
@[simp 900] theorem evE_q16 : evE U C (.slc a lo hi) ρ = ((evE U C a ρ).bind fun u ρ1 => match hold u with
    | none => .stuck
    | some u => (evPart U C lo ρ1).bind fun l ρ2 => (evPart U C hi ρ2).bind fun h ρ3 => match rd ρ3 u with
      | some x => Out.of ρ3 (slcD x l h)
      | none => .stuck) := by first | rfl | (rw [evE]; done) | (rw [evE]; congr)
@[simp 900] theorem evE_q17 : evE U C (.call f as) ρ = ((evAs U C as ρ).bind fun ags ρ1 => callO C f ags ρ1) := by first | rfl | (rw [evE]; done) | (rw [evE]; congr)
@[simp 900] theorem evE_q18 : evE U C (.callT f e as) ρ = ((evE U C e ρ).bind fun u ρ1 => match u with
    | .o (.lst xs) => (evAs U C as ρ1).bind fun ags ρ2 => (noExc (callO C f (.io ρ2.length :: ags) (ρ2 ++ [.o false false (.lst xs)]))).bind fun v ρ3 => match v with
      | .b _ => .stuck
      | v => .ok v (ρ3.take ρ2.length)
    | _ => .stuck) := by first | rfl | (rw [evE]; done) | (rw [evE]; congr)
@[simp 900] theorem evE_q19 : evE U C (.callK f as) ρ = ((evAs U C as ρ).bind fun ags ρ1 => callO C f ags ρ1) := by first | rfl | (rw [evE]; done) | (rw [evE]; congr)
@[simp 900] theorem evE_q20 {p : Nat} {π : List Nat} {as ks : As} : evE U C (.callM f p π as ks) ρ = ((evAs U C as ρ).bind fun a ρ1 => (evAs U C ks ρ1).bind fun b ρ2 => if a.length = p ∧ a.length + b.length = π.length then callO C f (reord π (a ++ b)) ρ2 else .stuck) := by first | rfl | (rw [evE]; done) | (rw [evE]; congr)
@[simp 900] theorem evE_q21 : evE U C (.bits e) ρ = ((evE U C e ρ).bind fun v ρ1 => match rd ρ1 v with
    | some (.int i) => .ok (.d (.int (Builtin.Int.intBits i : Nat))) ρ1
    | _ => .stuck) := by first | rfl | (rw [evE]; done) | (rw [evE]; congr)
@[simp 900] theorem evE_q22 : evE U C (.dnew) ρ = (.ok (.o (.dct [])) ρ) := by first | rfl | (rw [evE]; done) | (rw [evE]; congr)
@[simp 900] theorem evE_q23 : evE U C (.trg a b) ρ = ((evE U C a ρ).bind fun u ρ1 => match u with
    | .d (.int i) => (evE U C b ρ1).bind fun v ρ2 => match v with
      | .d (.int j) => if (small i && small j) && decide ((j - i).toNat ≤ sizeLine) then .ok (.d (.tuple (up i (j - i).toNat))) ρ2 else .stuck
      | _ => .stuck
    | _ => .stuck) := by first | rfl | (rw [evE]; done) | (rw [evE]; congr)
@[simp 900] theorem evE_q24 {m : Mth} : evE U C (.mth m a es) ρ = ((evE U C a ρ).bind fun u ρ1 => match hold u with
    | none => .stuck
    | some u => if m.recv (rd ρ1 u) then (evReads U C es ρ1).bind fun vs ρ2 => match rd ρ2 u, vs.mapM (rd ρ2) with
      | some x, some ds => Out.of ρ2 (mthD m x ds)
      | _, _ => .stuck
      else .stuck) := by first | rfl | (rw [evE]; done) | (rw [evE]; congr)
@[simp 900] theorem evE_q25 : evE U C (.rev e) ρ = ((evE U C e ρ).bind fun v ρ1 => match rd ρ1 v with
    | some (.tuple xs) => .ok (.d (.tuple xs.reverse)) ρ1
    | some (.list xs) => .ok (.o (.lst xs.reverse)) ρ1
    | _ => .stuck) := by first | rfl | (rw [evE]; done) | (rw [evE]; congr)
@[simp 900] theorem evE_q26 {f : Blt} {as : Exs} : evE U C (.blt f as) ρ = ((evReads U C as ρ).bind fun vs ρ1 => match vs.mapM (rd ρ1) with
    | some ds => Out.of ρ1 (bltD f ds)
    | none => match vs.mapM (rdk ρ1) with
      | some [kvs] => Out.of ρ1 (bltK f kvs)
      | _ => .stuck) := by first | rfl | (rw [evE]; done) | (rw [evE]; congr)
@[simp 900] theorem evE_q27 : evE U C (.isi T e) ρ = ((evE U C e ρ).bind fun v ρ1 => match rd ρ1 v with
    | some d => .ok (.d (.bool (isA T d))) ρ1
    | none => .stuck) := by first | rfl | (rw [evE]; done) | (rw [evE]; congr)
@[simp 900] theorem evE_q28 {c : Option Nat} : evE U C (.isx c e) ρ = ((evE U C e ρ).bind fun v ρ1 => match v with
    | .x c' _ => .ok (.d (.bool (match c with | some c => excSub c' c | none => true))) ρ1
    | .d _ => .ok (.d (.bool false)) ρ1
    | _ => .stuck) := by first | rfl | (rw [evE]; done) | (rw [evE]; congr)
@[simp 900] theorem evE_q29 : evE U C (.xval e) ρ = ((evE U C e ρ).bind fun v ρ1 => match v with
    | .x _ x => .ok (.d x) ρ1
    | _ => .stuck) := by first | rfl | (rw [evE]; done) | (rw [evE]; congr)
@[simp 900] theorem evE_q30 : evE U C (.isN neg e) ρ = ((evE U C e ρ).bind fun v ρ1 => match v with
    | .x _ _ => .ok (.d (.bool neg)) ρ1
    | .d x => .ok (.d (.bool (if isNon x then !neg else neg))) ρ1
    | .b i => (match get ρ1 i with
      | .o _ _ _ => .ok (.d (.bool neg)) ρ1
      | .d x => .ok (.d (.bool (if isNon x then !neg else neg))) ρ1
      | _ => .stuck)
    | .o _ => .ok (.d (.bool neg)) ρ1) := by first | rfl | (rw [evE]; done) | (rw [evE]; congr)
@[simp 900] theorem evE_q31 : evE U C (.pop i) ρ = (match get ρ i with
    | .o p false (.lst xs) => match xs.getLast? with
      | some x => .ok (.d x) (ρ.set i (.o p false (.lst xs.dropLast)))
      | none => .stuck
    | _ => .stuck) := by first | rfl | (rw [evE]; done) | (rw [evE]; congr)
@[simp 900] theorem evE_q32 : evE U C (.app i e) ρ = (match get ρ i with
    | .o _ _ (.lst _) => (evE U C e ρ).bind fun v ρ1 => (fz ρ1 v).bind fun y ρ2 => match get ρ2 i with
      | .o p false (.lst xs) => if xs.length < sizeLine then .ok (.d .none) (ρ2.set i (.o p false (.lst (xs ++ [y])))) else .stuck
      | _ => .stuck
    | _ => .stuck) := by first | rfl | (rw [evE]; done) | (rw [evE]; congr)
@[simp 900] theorem evE_q33 : evE U C (.ext i e) ρ = (match get ρ i with
    | .o _ _ (.lst _) => (evE U C e ρ).bind fun v ρ1 => match v, rd ρ1 v, get ρ1 i with
      | .b j, some (.list ys), .o p false (.lst xs) => if j ≠ i ∧ xs.length + ys.length ≤ sizeLine then .ok (.d .none) (ρ1.set i (.o p false (.lst (xs ++ ys)))) else .stuck
      | .o _, some (.list ys), .o p false (.lst xs) => if xs.length + ys.length ≤ sizeLine then .ok (.d .none) (ρ1.set i (.o p false (.lst (xs ++ ys)))) else .stuck
      | .d _, some (.list ys), .o p false (.lst xs) => if xs.length + ys.length ≤ sizeLine then .ok (.d .none) (ρ1.set i (.o p false (.lst (xs ++ ys)))) else .stuck
      | .d _, some (.tuple ys), .o p false (.lst xs) => if xs.length + ys.length ≤ sizeLine then .ok (.d .none) (ρ1.set i (.o p false (.lst (xs ++ ys)))) else .stuck
      | _, _, _ => .stuck
    | _ => .stuck) := by first | rfl | (rw [evE]; done) | (rw [evE]; congr)
@[simp 900] theorem evAnd_q0 : evAnd U C (.nil) ρ = (.ok (.d (.bool true)) ρ) := by first | rfl | (rw [evAnd]; done) | (rw [evAnd]; congr)
@[simp 900] theorem evAnd_q1 : evAnd U C (.cons a .nil) ρ = (evE U C a ρ) := by first | rfl | (rw [evAnd]; done) | (rw [evAnd]; congr)
@[simp 900] theorem evAnd_q2 : evAnd U C (.cons a (.cons b r)) ρ = ((asB (evE U C a ρ)).bind fun t ρ1 => if t then evAnd U C (.cons b r) ρ1 else .ok (.d (.bool false)) ρ1) := by first | rfl | (rw [evAnd]; done) | (rw [evAnd]; congr)
@[simp 900] theorem evOr_q0 : evOr U C (.nil) ρ = (.ok (.d (.bool false)) ρ) := by first | rfl | (rw [evOr]; done) | (rw [evOr]; congr)
@[simp 900] theorem evOr_q1 : evOr U C (.cons a .nil) ρ = (evE U C a ρ) := by first | rfl | (rw [evOr]; done) | (rw [evOr]; congr)
@[simp 900] theorem evOr_q2 : evOr U C (.cons a (.cons b r)) ρ = ((asB (evE U C a ρ)).bind fun t ρ1 => if t then .ok (.d (.bool true)) ρ1 else evOr U C (.cons b r) ρ1) := by first | rfl | (rw [evOr]; done) | (rw [evOr]; congr)
@[simp 900] theorem evConds_q0 : evConds U C (.nil) ρ = (.ok true ρ) := by first | rfl | (rw [evConds]; done) | (rw [evConds]; congr)
@[simp 900] theorem evConds_q1 : evConds U C (.cons a r) ρ = (asB (evE U C a ρ)) := by first | rfl | (rw [evConds]; done) | (rw [evConds]; congr)
@[simp 900] theorem evals_q0 : evals U C (.nil) ρ = (.ok [] ρ) := by first | rfl | (rw [evals]; done) | (rw [evals]; congr)
@[simp 900] theorem evals_q1 : evals U C (.cons e r) ρ = ((evE U C e ρ).bind fun v ρ1 => (fz ρ1 v).bind fun x ρ2 => (evals U C r ρ2).bind fun xs ρ3 => .ok (x :: xs) ρ3) := by first | rfl | (rw [evals]; done) | (rw [evals]; congr)
@[simp 900] theorem evReads_q0 : evReads U C (.nil) ρ = (.ok [] ρ) := by first | rfl | (rw [evReads]; done) | (rw [evReads]; congr)
@[simp 900] theorem evReads_q1 : evReads U C (.cons e r) ρ = ((evE U C e ρ).bind fun v ρ1 => match hold v with
    | none => .stuck
    | some v => (evReads U C r ρ1).bind fun vs ρ2 => .ok (v :: vs) ρ2) := by first | rfl | (rw [evReads]; done) | (rw [evReads]; congr)
@[simp 900] theorem evPart_q0 : evPart U C (.nil) ρ = (.ok none ρ) := by first | rfl | (rw [evPart]; done) | (rw [evPart]; congr)
@[simp 900] theorem evPart_q1 : evPart U C (.cons e r) ρ = ((evE U C e ρ).bind fun v ρ1 => match v with
    | .d (.int i) => .ok (some i) ρ1
    | _ => .stuck) := by first | rfl | (rw [evPart]; done) | (rw [evPart]; congr)
@[simp 900] theorem evAs_q0 : evAs U C (.nil) ρ = (.ok [] ρ) := by first | rfl | (rw [evAs]; done) | (rw [evAs]; congr)
@[simp 900] theorem evAs_q1 {r : As} : evAs U C (.val e r) ρ = ((evE U C e ρ).bind fun v ρ1 => (fz ρ1 v).bind fun x ρ2 => (evAs U C r ρ2).bind fun xs ρ3 => .ok (.d x :: xs) ρ3) := by first | rfl | (rw [evAs]; done) | (rw [evAs]; congr)
@[simp 900] theorem evAs_q2 {r : As} : evAs U C (.io i r) ρ = (match get ρ i with
    | .no => .stuck
    | _ => (evAs U C r ρ).bind fun xs ρ1 => .ok (.io i :: xs) ρ1) := by first | rfl | (rw [evAs]; done) | (rw [evAs]; congr)
@[simp 900] theorem evSrc_q0 : evSrc U C (.ev e) ρ = ((evE U C e ρ).bind fun v ρ1 => Out.of ρ1 (items ρ1 v)) := by first | rfl | (rw [evSrc]; done) | (rw [evSrc]; congr)
@[simp 900] theorem evSrc_q1 : evSrc U C (.rng1 a) ρ = ((evE U C a ρ).bind fun v ρ1 => match v with
    | .d (.int j) => if small j then .ok (up 0 j.toNat, none) ρ1 else .stuck
    | _ => .stuck) := by first | rfl | (rw [evSrc]; done) | (rw [evSrc]; congr)
@[simp 900] theorem evSrc_q2 : evSrc U C (.rng2 a b) ρ = ((evE U C a ρ).bind fun u ρ1 => match u with
    | .d (.int i) => (evE U C b ρ1).bind fun v ρ2 => match v with
      | .d (.int j) => if small i && small j then .ok (up i (j - i).toNat, none) ρ2 else .stuck
      | _ => .stuck
    | _ => .stuck) := by first | rfl | (rw [evSrc]; done) | (rw [evSrc]; congr)
@[simp 900] theorem evSrc_q3 : evSrc U C (.enum e) ρ = ((evE U C e ρ).bind fun v ρ1 => match v, items ρ1 v with
    | .d (.tuple _), _ => .stuck
    | _, some (xs, l) => .ok (numbered xs, l) ρ1
    | _, none => .stuck) := by first | rfl | (rw [evSrc]; done) | (rw [evSrc]; congr)
@[simp 900] theorem evSrc_q4 : evSrc U C (.zip a b) ρ = ((evE U C a ρ).bind fun u ρ1 => (fz ρ1 u).bind fun x ρ2 => (evE U C b ρ2).bind fun v ρ3 => (fz ρ3 v).bind fun y ρ4 => match x, y with
    | .list xs, .list ys => .ok (paired xs ys, none) ρ4
    | .tuple xs, .tuple ys => .ok (paired xs ys, none) ρ4
    | _, _ => .stuck) := by first | rfl | (rw [evSrc]; done) | (rw [evSrc]; congr)
@[simp 900] theorem runS_q0 : runS U C (.asg i e) ρ = ((evE U C e ρ).bind fun v ρ1 => store i ρ1 v) := by first | rfl | (rw [runS]; done) | (rw [runS]; congr)
@[simp 900] theorem runS_q1 : runS U C (.asgT is e) ρ = ((evE U C e ρ).bind fun v ρ1 => (fz ρ1 v).bind fun x ρ2 => match (Tg.tp is).to x ρ2 with
    | some ρ3 => .ok .nx ρ3
    | none => .stuck) := by first | rfl | (rw [runS]; done) | (rw [runS]; congr)
@[simp 900] theorem runS_q2 : runS U C (.par2 i j a b) ρ = ((evE U C a ρ).bind fun u ρ1 => (fz ρ1 u).bind fun x ρ2 => (evE U C b ρ2).bind fun v ρ3 => (fz ρ3 v).bind fun y ρ4 =>
      match (put ρ4 i (.d x)).bind fun ρ5 => put ρ5 j (.d y) with
      | some ρ6 => .ok .nx ρ6
      | none => .stuck) := by first | rfl | (rw [runS]; done) | (rw [runS]; congr)
@[simp 900] theorem runS_q3 : runS U C (.par is es) ρ = ((keeps U C es ρ).bind fun us ρ1 => match putAll is us ρ1 with
      | some ρ2 => .ok .nx ρ2
      | none => .stuck) := by first | rfl | (rw [runS]; done) | (rw [runS]; congr)
@[simp 900] theorem runS_q4 : runS U C (.setIx i k e) ρ = ((evE U C e ρ).bind fun v ρ1 => (fz ρ1 v).bind fun y ρ2 => match get ρ2 i with
    | .o _ _ _ => (evE U C k ρ2).bind fun w ρ3 => match w with
      | .d x => setAt i x y ρ3
      | _ => .stuck
    | _ => .stuck) := by first | rfl | (rw [runS]; done) | (rw [runS]; congr)
@[simp 900] theorem runS_q5 : runS U C (.exs e) ρ = ((evE U C e ρ).bind fun _ ρ1 => .ok .nx ρ1) := by first | rfl | (rw [runS]; done) | (rw [runS]; congr)
@[simp 900] theorem runS_q6 : runS U C (.ret e) ρ = ((evE U C e ρ).bind fun v ρ1 => leave ρ1 v) := by first | rfl | (rw [runS]; done) | (rw [runS]; congr)
@[simp 900] theorem runS_q7 : runS U C (.retN) ρ = (.ok (.ret (.d .none)) ρ) := by first | rfl | (rw [runS]; done) | (rw [runS]; congr)
@[simp 900] theorem runS_q8 {a b : Sts} : runS U C (.ite c a b) ρ = ((asB (evE U C c ρ)).bind fun t ρ1 => if t then runSs U C a ρ1 else runSs U C b ρ1) := by first | rfl | (rw [runS]; done) | (rw [runS]; congr)
@[simp 900] theorem runS_q9 : runS U C (.pass) ρ = (.ok .nx ρ) := by first | rfl | (rw [runS]; done) | (rw [runS]; congr)
@[simp 900] theorem runS_q10 : runS U C (.brk) ρ = (.ok .bk ρ) := by first | rfl | (rw [runS]; done) | (rw [runS]; congr)
@[simp 900] theorem runS_q11 : runS U C (.cnt) ρ = (.ok .ct ρ) := by first | rfl | (rw [runS]; done) | (rw [runS]; congr)
@[simp 900] theorem runS_q12 {c : Nat} : runS U C (.raise c e) ρ = ((evE U C e ρ).bind fun v ρ1 => (fz ρ1 v).bind fun x ρ2 => .exc c x ρ2) := by first | rfl | (rw [runS]; done) | (rw [runS]; congr)
@[simp 900] theorem runS_q13 {b : Sts} {c : Nat} : runS U C (.tryC b c i j) ρ = (caughtO c i j (runSs U C b ρ)) := by first | rfl | (rw [runS]; done) | (rw [runS]; congr)
@[simp 900] theorem runSs_q0 : runSs U C (.nil) ρ = (.ok .nx ρ) := by first | rfl | (rw [runSs]; done) | (rw [runSs]; congr)
@[simp 900] theorem runSs_q1 {s : St} {r : Sts} : runSs U C (.cons s r) ρ = ((runS U C s ρ).bind fun f ρ1 => match f with
    | .nx => runSs U C r ρ1
    | .ret r => .ok (.ret r) ρ1
    | .bk => .ok .bk ρ1
    | .ct => .ok .ct ρ1) := by first | rfl | (rw [runSs]; done) | (rw [runSs]; congr)
end
end Ev

set_option Elab.async false
set_option linter.all false
set_option maxRecDepth 100000
/-! Tools for plain laws: running a body by simp, loops, sizes. -/
namespace Ev
open PySem

@[simp] theorem get_zero {v : Vr} {ρ : Rho} : get (v :: ρ) 0 = v := rfl
@[simp] theorem get_succ {v : Vr} {ρ : Rho} {i : Nat} : get (v :: ρ) (i + 1) = get ρ i := rfl
@[simp] theorem get_nil {i : Nat} : get [] i = .no := by unfold get; simp
@[simp] theorem set_zero' {v w : Vr} {ρ : Rho} : List.set (v :: ρ) 0 w = w :: ρ := rfl
theorem calls_at {U : Consts} {T : List Fd} {n f : Nat} {avs : List AV} {F : Fd} (h : T[f]? = some F) : calls U T (n + 1) f avs = F.run U (calls U T n) avs := by rw [calls, h]
@[simp] theorem sz0 : (0 : Nat) ≤ sizeLine := by decide
@[simp] theorem sz1 : (1 : Nat) ≤ sizeLine := by decide
@[simp] theorem sz2 : (2 : Nat) ≤ sizeLine := by decide
@[simp] theorem sz3 : (3 : Nat) ≤ sizeLine := by decide
@[simp] theorem sz4 : (4 : Nat) ≤ sizeLine := by decide
@[simp] theorem sz5 : (5 : Nat) ≤ sizeLine := by decide
@[simp] theorem sz6 : (6 : Nat) ≤ sizeLine := by decide
@[simp] theorem sz7 : (7 : Nat) ≤ sizeLine := by decide
@[simp] theorem sz8 : (8 : Nat) ≤ sizeLine := by decide
@[simp] theorem sz9 : (9 : Nat) ≤ sizeLine := by decide
@[simp] theorem sz10 : (10 : Nat) ≤ sizeLine := by decide
@[simp] theorem sz11 : (11 : Nat) ≤ sizeLine := by decide
@[simp] theorem sz12 : (12 : Nat) ≤ sizeLine := by decide
@[simp] theorem sz13 : (13 : Nat) ≤ sizeLine := by decide
@[simp] theorem sz14 : (14 : Nat) ≤ sizeLine := by decide
@[simp] theorem sz15 : (15 : Nat) ≤ sizeLine := by decide
@[simp] theorem sz16 : (16 : Nat) ≤ sizeLine := by decide
@[simp] theorem sz17 : (17 : Nat) ≤ sizeLine := by decide
@[simp] theorem sz18 : (18 : Nat) ≤ sizeLine := by decide
@[simp] theorem sz19 : (19 : Nat) ≤ sizeLine := by decide
@[simp] theorem sz20 : (20 : Nat) ≤ sizeLine := by decide
@[simp] theorem sz21 : (21 : Nat) ≤ sizeLine := by decide
@[simp] theorem sz22 : (22 : Nat) ≤ sizeLine := by decide
@[simp] theorem sz23 : (23 : Nat) ≤ sizeLine := by decide
@[simp] theorem sz24 : (24 : Nat) ≤ sizeLine := by decide
@[simp] theorem sz25 : (25 : Nat) ≤ sizeLine := by decide
@[simp] theorem noExc_ok {α : Type} {a : α} {ρ : Rho} : noExc (.ok a ρ) = .ok a ρ := rfl
@[simp] theorem lock_none {ρ : Rho} : lock ρ none = ρ := rfl
@[simp] theorem unlock_none {ρ : Rho} : unlock ρ none = ρ := rfl
@[simp] theorem wipeR_nil {ρ : Rho} : wipeR ρ [] = ρ := rfl
@[simp] theorem wipeR_cons {ρ : Rho} {i : Nat} {is : List Nat} : wipeR ρ (i :: is) = (wipeR ρ is).set i .no := rfl
@[simp] theorem restore_nil {ρ ρ0 : Rho} : restore ρ0 ρ [] = ρ := rfl
@[simp] theorem restore_cons {ρ ρ0 : Rho} {i : Nat} {is : List Nat} : restore ρ0 ρ (i :: is) = (restore ρ0 ρ is).set i (get ρ0 i) := rfl
@[simp] theorem walked_ok {f : Fl} {ρ : Rho} {l : Option Nat} : walked (.ok f ρ) l = .ok f (unlock ρ l) := rfl
theorem part_one {α : Type} {x : α} {r : List α} : part (x :: r) (some 1) none = r := by simp [part, HT.sIx]
theorem bools_map {α : Type} {f : α → Bool} : ∀ l : List α, boolsOf (l.map fun x => .bool (f x)) = some (l.map f)
  | [] => rfl
  | x :: l => by simp [boolsOf, bools_map l]
@[simp] theorem asB_d {b : Bool} {ρ : Rho} : asB (.ok (.d (.bool b)) ρ) = .ok b ρ := rfl
@[simp ↓] theorem bind_match {α β : Type} {o : Out α} {f : α → Rho → Out β} : o.bind f = match o with
    | .stuck => .stuck
    | .ok a ρ => f a ρ
    | .exc c x ρ => .exc c x ρ := rfl
/-- simp runs a body with these -/
theorem run_def {U : Consts} {C : Calls} {np ns : Nat} {b : Sts} {avs : List AV} : Fd.run U C ⟨np, ns, b⟩ avs = if avs.length = np ∧ np ≤ ns then
    match runSs U C b (Fd.enter ⟨np, ns, b⟩ avs) with
    | .ok .nx ρ => .ret (.d .none) (ρ.take np)
    | .ok (.ret r) ρ => .ret r (ρ.take np)
    | .exc c x ρ => .exc c x (ρ.take np)
    | _ => .stuck
  else .stuck := rfl

theorem shaped_int (i : Int) : SeqAt.shaped (.int i) = true := by simp [SeqAt.shaped, PyData.canLay0, PyData.depth]
theorem shaped_str {x : Str} (h : PyData.strOk x = true) : SeqAt.shaped (.str x) = true := by simp [SeqAt.shaped, PyData.canLay0, PyData.depth, h]
theorem shaped_bool (b : Bool) : SeqAt.shaped (.bool b) = true := by simp [SeqAt.shaped, PyData.canLay0, PyData.depth]
theorem shaped_none : SeqAt.shaped .none = true := by simp [SeqAt.shaped, PyData.canLay0, PyData.depth]
@[simp] theorem cmp_eq_int (i j : Int) : cmpD .Eq (.int i) (.int j) = some (decide (i = j)) := by
  simp [cmpD, shaped_int, PyData.eqv]
  rfl
@[simp] theorem cmp_ne_int (i j : Int) : cmpD .NotEq (.int i) (.int j) = some (decide (i ≠ j)) := by
  simp [cmpD, shaped_int, PyData.eqv]
  rfl
@[simp] theorem cmp_lt_int (i j : Int) : cmpD .Lt (.int i) (.int j) = some (decide (i < j)) := rfl
@[simp] theorem cmp_le_int (i j : Int) : cmpD .LtE (.int i) (.int j) = some (decide (i ≤ j)) := rfl
@[simp] theorem cmp_gt_int (i j : Int) : cmpD .Gt (.int i) (.int j) = some (decide (j < i)) := rfl
@[simp] theorem cmp_ge_int (i j : Int) : cmpD .GtE (.int i) (.int j) = some (decide (j ≤ i)) := rfl
@[simp] theorem cmp_eq_str {x y : Str} : cmpD .Eq (.str x) (.str y) = some (x == y) := rfl
@[simp] theorem cmp_ne_str {x y : Str} : cmpD .NotEq (.str x) (.str y) = some (!(x == y)) := rfl
theorem cmp_eq_any {a b : PyData} (ha : SeqAt.shaped a = true) (hb : SeqAt.shaped b = true) : cmpD .Eq a b = some (PyData.eqv a b) := by
  cases a <;> cases b <;> simp_all [cmpD, PyData.eqv]
theorem cmp_ne_any {a b : PyData} (ha : SeqAt.shaped a = true) (hb : SeqAt.shaped b = true) : cmpD .NotEq a b = some (!PyData.eqv a b) := by
  cases a <;> cases b <;> simp_all [cmpD, PyData.eqv]
@[simp] theorem cmp_eq_bool (i j : Bool) : cmpD .Eq (.bool i) (.bool j) = some (i == j) := by
  simp [cmpD, shaped_bool, PyData.eqv]
@[simp] theorem cmp_ne_bool (i j : Bool) : cmpD .NotEq (.bool i) (.bool j) = some (!(i == j)) := by
  simp [cmpD, shaped_bool, PyData.eqv]
theorem cmp_in_tup {a : PyData} {xs : List PyData} (ha : SeqAt.shaped a = true) (hx : SeqAt.shaped (.tuple xs) = true) : cmpD .In a (.tuple xs) = some (xs.any fun x => PyData.eqv x a) := by simp [cmpD, ha, hx]
theorem cmp_nin_tup {a : PyData} {xs : List PyData} (ha : SeqAt.shaped a = true) (hx : SeqAt.shaped (.tuple xs) = true) : cmpD .NotIn a (.tuple xs) = some (!xs.any fun x => PyData.eqv x a) := by simp [cmpD, ha, hx]
theorem cmp_in_lst {a : PyData} {xs : List PyData} (ha : SeqAt.shaped a = true) (hx : SeqAt.shaped (.list xs) = true) : cmpD .In a (.list xs) = some (xs.any fun x => PyData.eqv x a) := by simp [cmpD, ha, hx]
theorem cmp_nin_lst {a : PyData} {xs : List PyData} (ha : SeqAt.shaped a = true) (hx : SeqAt.shaped (.list xs) = true) : cmpD .NotIn a (.list xs) = some (!xs.any fun x => PyData.eqv x a) := by simp [cmpD, ha, hx]
@[simp] theorem eqv_str {x y : Str} : PyData.eqv (.str x) (.str y) = (x == y) := by simp [PyData.eqv]
@[simp] theorem eqv_int {x y : Int} : PyData.eqv (.int x) (.int y) = (x == y) := by simp [PyData.eqv]
@[simp] theorem eqv_bool {x y : Bool} : PyData.eqv (.bool x) (.bool y) = (x == y) := by simp [PyData.eqv]
@[simp] theorem is_tup {xs : List PyData} : cmpD .Is (.tuple xs) .none = some false := rfl
@[simp] theorem is_lst {xs : List PyData} : cmpD .Is (.list xs) .none = some false := rfl
@[simp] theorem is_int {i : Int} : cmpD .Is (.int i) .none = some false := rfl
@[simp] theorem is_str {x : Str} : cmpD .Is (.str x) .none = some false := rfl
@[simp] theorem is_bool {b : Bool} : cmpD .Is (.bool b) .none = some false := rfl
@[simp] theorem is_bools {b c : Bool} : cmpD .Is (.bool b) (.bool c) = some (decide (b = c)) := rfl
@[simp] theorem isn_tup {xs : List PyData} : cmpD .IsNot (.tuple xs) .none = some true := rfl
@[simp] theorem isn_lst {xs : List PyData} : cmpD .IsNot (.list xs) .none = some true := rfl
@[simp] theorem isn_int {i : Int} : cmpD .IsNot (.int i) .none = some true := rfl
@[simp] theorem isn_str {x : Str} : cmpD .IsNot (.str x) .none = some true := rfl
@[simp] theorem isn_bool {b : Bool} : cmpD .IsNot (.bool b) .none = some true := rfl
@[simp] theorem isn_none : cmpD .IsNot .none .none = some false := rfl
@[simp] theorem cmp_is_none : cmpD .Is .none .none = some true := rfl
theorem at_nat {α : Type} {xs : List α} {i : Nat} (h : i < xs.length) : L2.atI xs (i : Int) = xs[i]? := by
  unfold L2.atI L2.ixN
  rw [if_pos (by omega), if_pos (by omega)]
  simp
@[simp] theorem at_zero {α : Type} {x : α} {r : List α} : L2.atI (x :: r) 0 = some x := by
  have := at_nat (xs := x :: r) (i := 0) (by simp)
  simpa using this
@[simp] theorem at_one {α : Type} {x y : α} {r : List α} : L2.atI (x :: y :: r) 1 = some y := by
  have := at_nat (xs := x :: y :: r) (i := 1) (by simp)
  simpa using this
@[simp] theorem at_two {α : Type} {x y z : α} {r : List α} : L2.atI (x :: y :: z :: r) 2 = some z := by
  have := at_nat (xs := x :: y :: z :: r) (i := 2) (by simp)
  simpa using this
/-! numbers -/
theorem bits_le {x : Int} {k : Nat} (h0 : -(2 ^ k) < x) (h1 : x < 2 ^ k) : Builtin.Int.intBits x ≤ k := by
  unfold Builtin.Int.intBits
  split
  · omega
  · rename_i h
    have hx : x ≠ 0 := by simpa using h
    have hn : x.natAbs ≠ 0 := by omega
    have : x.natAbs < 2 ^ k := by
      have e : ((2 ^ k : Nat) : Int) = (2 : Int) ^ k := by simp
      omega
    have := (Nat.log2_lt hn).mpr this
    omega
theorem log2_small {j : Int} {k : Nat} (hk : 0 < k) (h0 : -(2 ^ k) < j) (h : j < 2 ^ k) : j.natAbs.log2 < k := by
  by_cases hj : j.natAbs = 0
  · rw [hj]; simpa using hk
  · have e : ((2 ^ k : Nat) : Int) = (2 : Int) ^ k := by simp
    exact (Nat.log2_lt hj).mpr (by omega)
theorem pow_ok {i j : Int} {k : Nat} (h0 : 0 ≤ j) (h1 : -(2 ^ k) < i) (h2 : i < 2 ^ k) (h : (k : Int) * j ≤ 2 ^ 27) : powOk i j = true := by
  have := bits_le h1 h2
  simp only [powOk, Bool.and_eq_true, decide_eq_true_eq]
  refine ⟨h0, Int.le_trans (Int.mul_le_mul_of_nonneg_right (by omega) h0) h⟩
theorem mul_left {i j : Int} (h1 : -(2 ^ 64) < i) (h2 : i < 2 ^ 64) : mulOk i j = true := by simp only [mulOk, h1, h2]; simp
theorem mul_right {i j : Int} (h1 : -(2 ^ 64) < j) (h2 : j < 2 ^ 64) : mulOk i j = true := by simp only [mulOk, h1, h2]; simp
@[simp] theorem bin_add (i j : Int) : binD .Add (.int i) (.int j) = some (.d (.int (i + j))) := rfl
@[simp] theorem bin_sub (i j : Int) : binD .Sub (.int i) (.int j) = some (.d (.int (i - j))) := rfl
theorem bin_mul {i j : Int} (h : mulOk i j = true) : binD .Mult (.int i) (.int j) = some (.d (.int (i * j))) := by simp [binD, h]
theorem bin_pow {i j : Int} (h : powOk i j = true) : binD .Pow (.int i) (.int j) = some (.d (.int (i ^ j.toNat))) := by simp [binD, h]
theorem bin_mod {i j : Int} (h : 0 < j) : binD .Mod (.int i) (.int j) = some (.d (.int (i % j))) := by simp [binD, h]
theorem bin_div {i j : Int} (h : 0 < j) (h2 : j < 10 ^ 60) : binD .FloorDiv (.int i) (.int j) = some (.d (.int (i / j))) := by
  have := log2_small (j := j) (k := 200) (by decide) (by omega) (by omega)
  simp only [binD]
  rw [if_pos ⟨h, by omega⟩]
/-- max(0, x), abs(x) -/
def posI (x : Int) : Int := if x > 0 then x else 0
def absI (x : Int) : Int := if x < 0 then -x else x
theorem max_zero {j : Int} : maxD [.int 0, .int j] = some (.d (.int (posI j))) := rfl
theorem abs_int {j : Int} : absD [.int j] = some (.d (.int (absI j))) := rfl
theorem posI_nn (x : Int) : 0 ≤ posI x := by unfold posI; split <;> omega
/-! loops under names of their own, so that simp leaves their parts alone -/
def lcE (U : Consts) (C : Calls) (own : List Nat) (tg : Tg) (cs : Exs) (e : Ex) (items acc : List PyData) (ρ : Rho) : Out (List PyData) := lcL own tg.to (evConds U C cs) (fun ρ => (evE U C e ρ).bind fun v ρ' => fz ρ' v) items acc ρ
def whlE (U : Consts) (C : Calls) (c : Ex) (b : Sts) (k : Nat) (ρ : Rho) : Out Fl := whlL (fun ρ => asB (evE U C c ρ)) (runSs U C b) k ρ
def forE (U : Consts) (C : Calls) (tg : Tg) (b : Sts) (items : List PyData) (ρ : Rho) : Out Fl := forL tg.to (runSs U C b) items ρ
@[simp 900] theorem evE_lc {U : Consts} {C : Calls} {own : List Nat} {tg : Tg} {s : Src} {cs : Exs} {e : Ex} {ρ : Rho} : evE U C (.lc own tg s cs e) ρ = (evSrc U C s ρ).bind fun il ρ1 => if own.all (fun i => free ρ1 i) then
      (noExc (lcE U C own tg cs e il.1 [] (wipeR (lock ρ1 il.2) own))).bind fun ys ρ2 => .ok (.o (.lst ys)) (unlock (restore ρ1 ρ2 own) il.2)
      else .stuck := by rw [evE]; rfl
def dcE (U : Consts) (C : Calls) (own : List Nat) (tg : Tg) (cs : Exs) (k e : Ex) (items : List PyData) (acc : List (PyData × PyData)) (ρ : Rho) : Out (List (PyData × PyData)) := dcL own tg.to (evConds U C cs) (fun ρ => (evE U C k ρ).bind fun v ρ' => fz ρ' v) (fun ρ => (evE U C e ρ).bind fun v ρ' => fz ρ' v) items acc ρ
@[simp 900] theorem evE_dc {U : Consts} {C : Calls} {own : List Nat} {tg : Tg} {s : Src} {cs : Exs} {k e : Ex} {ρ : Rho} : evE U C (.dc own tg s cs k e) ρ = (evSrc U C s ρ).bind fun il ρ1 => if own.all (fun i => free ρ1 i) then
      (noExc (dcE U C own tg cs k e il.1 [] (wipeR (lock ρ1 il.2) own))).bind fun kvs ρ2 => .ok (.o (.dct kvs)) (unlock (restore ρ1 ρ2 own) il.2)
      else .stuck := by rw [evE]; rfl
@[simp 900] theorem evE_dck {U : Consts} {C : Calls} {own : List Nat} {tg : Tg} {i : Nat} {cs : Exs} {k e : Ex} {ρ : Rho} : evE U C (.dck own tg i cs k e) ρ = match get ρ i with
    | .o p false (.dct kvs) => if own.all (fun j => free (ρ.set i .no) j) && kvs.all (fun q => atomB q.1) then
        (noExc (dcE U C own tg cs k e (kvs.map (·.1)) [] (wipeR (ρ.set i .no) own))).bind fun ys ρ2 => .ok (.o (.dct ys)) ((restore (ρ.set i .no) ρ2 own).set i (.o p false (.dct kvs)))
      else .stuck
    | _ => .stuck := by rw [evE]; rfl
def lc2E (U : Consts) (C : Calls) (own : List Nat) (tg : Tg) (cs : Exs) (own1 : List Nat) (tg1 : Tg) (s1 : Src) (cs1 : Exs) (e : Ex) (items acc : List PyData) (ρ : Rho) : Out (List PyData) := lc2L own tg.to (evConds U C cs) own1 (evSrc U C s1) tg1.to (evConds U C cs1) (fun ρ => (evE U C e ρ).bind fun v ρ' => fz ρ' v) items acc ρ
@[simp 900] theorem evE_lc2 {U : Consts} {C : Calls} {own own1 : List Nat} {tg tg1 : Tg} {s s1 : Src} {cs cs1 : Exs} {e : Ex} {ρ : Rho} : evE U C (.lc2 own tg s cs own1 tg1 s1 cs1 e) ρ = (evSrc U C s ρ).bind fun il ρ1 => if own.all (fun i => free ρ1 i) then
      (noExc (lc2E U C own tg cs own1 tg1 s1 cs1 e il.1 [] (wipeR (lock ρ1 il.2) own))).bind fun ys ρ2 => .ok (.o (.lst ys)) (unlock (restore ρ1 ρ2 own) il.2)
      else .stuck := by rw [evE]; rfl
@[simp 900] theorem runS_whl {U : Consts} {C : Calls} {c : Ex} {b : Sts} {ρ : Rho} : runS U C (.whl c b) ρ = whlE U C c b WF ρ := by rw [runS]; rfl
@[simp 900] theorem runS_for {U : Consts} {C : Calls} {tg : Tg} {s : Src} {b : Sts} {ρ : Rho} : runS U C (.forr tg s b) ρ = (evSrc U C s ρ).bind fun il ρ1 => walked (forE U C tg b il.1 (lock ρ1 il.2)) il.2 := by rw [runS]; rfl
section
variable {U : Consts} {C : Calls} {ρ : Rho} {own : List Nat} {tg : Tg} {cs : Exs} {e : Ex} {c : Ex} {b : Sts}
theorem dcE_nil {k : Ex} {acc : List (PyData × PyData)} : dcE U C own tg cs k e [] acc ρ = .ok acc ρ := rfl
theorem dcE_cons {k : Ex} {x : PyData} {r : List PyData} {acc : List (PyData × PyData)} : dcE U C own tg cs k e (x :: r) acc ρ = match tg.to x ρ with
    | none => .stuck
    | some ρ1 => (evConds U C cs ρ1).bind fun t ρ2 => if t then ((evE U C k ρ2).bind fun v ρ' => fz ρ' v).bind fun ky ρ3 => ((evE U C e ρ3).bind fun v ρ' => fz ρ' v).bind fun y ρ4 => if keyFits acc ky ∧ acc.length < sizeLine then dcE U C own tg cs k e r (dPut acc ky y) (wipeR ρ4 own) else .stuck
      else dcE U C own tg cs k e r acc (wipeR ρ2 own) := rfl
theorem lc2E_nil {own1 : List Nat} {tg1 : Tg} {s1 : Src} {cs1 : Exs} {acc : List PyData} : lc2E U C own tg cs own1 tg1 s1 cs1 e [] acc ρ = .ok acc ρ := rfl
theorem lc2E_cons {own1 : List Nat} {tg1 : Tg} {s1 : Src} {cs1 : Exs} {x : PyData} {r acc : List PyData} : lc2E U C own tg cs own1 tg1 s1 cs1 e (x :: r) acc ρ = match tg.to x ρ with
    | none => .stuck
    | some ρ1 => (evConds U C cs ρ1).bind fun t ρ2 => if t then (evSrc U C s1 ρ2).bind fun il ρ3 => match il.2 with
        | some _ => .stuck
        | none => (lcE U C own1 tg1 cs1 e il.1 acc (wipeR ρ3 own1)).bind fun acc' ρ4 => lc2E U C own tg cs own1 tg1 s1 cs1 e r acc' (wipeR ρ4 own)
      else lc2E U C own tg cs own1 tg1 s1 cs1 e r acc (wipeR ρ2 own) := rfl
theorem whlE_zero : whlE U C c b 0 ρ = .stuck := rfl
theorem whlE_succ {k : Nat} : whlE U C c b (k + 1) ρ = (asB (evE U C c ρ)).bind fun t ρ1 => if t then (runSs U C b ρ1).bind fun f ρ2 => match f with
      | .nx => whlE U C c b k ρ2
      | .ct => whlE U C c b k ρ2
      | .bk => .ok .nx ρ2
      | .ret r => .ok (.ret r) ρ2
    else .ok .nx ρ1 := rfl
@[simp] theorem forE_nil : forE U C tg b [] ρ = .ok .nx ρ := rfl
theorem forE_cons {x : PyData} {r : List PyData} : forE U C tg b (x :: r) ρ = match tg.to x ρ with
    | none => .stuck
    | some ρ1 => (runSs U C b ρ1).bind fun f ρ2 => match f with
      | .nx => forE U C tg b r ρ2
      | .ct => forE U C tg b r ρ2
      | .bk => .ok .nx ρ2
      | .ret r => .ok (.ret r) ρ2 := rfl
/-- a comprehension over a row: one value for each item, nothing changes -/
theorem lcE_map {F : PyData → PyData} : ∀ {xs acc : List PyData}, acc.length + xs.length ≤ sizeLine →
    (∀ x ∈ xs, ∃ ρ1 ρ2 v, tg.to x ρ = some ρ1 ∧ evConds U C cs ρ1 = .ok true ρ1 ∧ evE U C e ρ1 = .ok v ρ2 ∧ (∃ ρ3, fz ρ2 v = .ok (F x) ρ3 ∧ wipeR ρ3 own = ρ)) → lcE U C own tg cs e xs acc ρ = .ok (acc ++ xs.map F) ρ
  | [], acc, _, _ => by simp [lcE, lcL]
  | x :: xs, acc, hl, h => by
    obtain ⟨ρ1, ρ2, v, h1, h2, h3, ρ3, h4, h5⟩ := h x (List.mem_cons_self ..)
    simp only [List.length_cons] at hl
    have ih := lcE_map (acc := acc ++ [F x]) (by simp; omega) fun y hy => h y (List.mem_cons_of_mem _ hy)
    unfold lcE at ih ⊢
    simp only [lcL, h1, h2, Out.bind_ok, if_true, h3, h4, h5]
    rw [if_pos (by omega), ih]
    simp
/-- .. something changes: I is kept, with the row so far -/
theorem lcE_rel {I : List PyData → Rho → Prop} {T : Nat} (hT : T ≤ sizeLine) : ∀ {xs acc : List PyData} {ρ : Rho}, acc.length + xs.length ≤ T → I acc ρ →
    (∀ x ∈ xs, ∀ acc ρ, acc.length < T → I acc ρ → ∃ ρ1 ρ2 ρ3 v y, tg.to x ρ = some ρ1 ∧ evConds U C cs ρ1 = .ok true ρ1 ∧ evE U C e ρ1 = .ok v ρ2 ∧ fz ρ2 v = .ok y ρ3 ∧ I (acc ++ [y]) (wipeR ρ3 own)) →
    ∃ ys ρ', lcE U C own tg cs e xs acc ρ = .ok ys ρ' ∧ I ys ρ' ∧ ys.length = acc.length + xs.length
  | [], acc, ρ, _, hi, _ => ⟨acc, ρ, rfl, hi, by simp⟩
  | x :: xs, acc, ρ, hl, hi, h => by
    simp only [List.length_cons] at hl
    obtain ⟨ρ1, ρ2, ρ3, v, y, h1, h2, h3, h4, h5⟩ := h x (List.mem_cons_self ..) acc ρ (by omega) hi
    obtain ⟨ys, ρ', e1, e2, e3⟩ := lcE_rel hT (xs := xs) (by simp; omega) h5 fun z hz => h z (List.mem_cons_of_mem _ hz)
    refine ⟨ys, ρ', ?_, e2, by rw [e3]; simp; omega⟩
    unfold lcE at e1 ⊢
    simp only [lcL, h1, h2, Out.bind_ok, if_true, h3, h4]
    rw [if_pos (by omega), e1]
/-- a for: an invariant, no way out but the end -/
theorem forE_rel {I : List PyData → Rho → Prop} : ∀ {xs : List PyData} {ρ : Rho}, I xs ρ →
    (∀ x r ρ, x ∈ xs → I (x :: r) ρ → ∃ ρ1 ρ2, tg.to x ρ = some ρ1 ∧ (runSs U C b ρ1 = .ok .nx ρ2 ∨ runSs U C b ρ1 = .ok .ct ρ2) ∧ I r ρ2) → ∃ ρ', forE U C tg b xs ρ = .ok .nx ρ' ∧ I [] ρ'
  | [], ρ, hi, _ => ⟨ρ, rfl, hi⟩
  | x :: xs, ρ, hi, h => by
    obtain ⟨ρ1, ρ2, h1, h2, h3⟩ := h x xs ρ (List.mem_cons_self ..) hi
    obtain ⟨ρ', e1, e2⟩ := forE_rel h3 fun z r ρ hz => h z r ρ (List.mem_cons_of_mem _ hz)
    refine ⟨ρ', ?_, e2⟩
    rw [forE_cons, h1]
    rcases h2 with h2 | h2
    · simp only [h2, Out.bind_ok, e1]
    · simp only [h2, Out.bind_ok, e1]
theorem up_mem {lo : Int} {n : Nat} {x : PyData} (h : x ∈ up lo n) : ∃ i : Nat, i < n ∧ x = .int (lo + i) := by
  unfold up at h
  obtain ⟨i, hi, rfl⟩ := List.mem_map.mp h
  exact ⟨i, List.mem_range.mp hi, rfl⟩
@[simp] theorem up_len {lo : Int} {n : Nat} : (up lo n).length = n := by simp [up]
end
end Ev

set_option linter.all false
set_option maxRecDepth 100000
/-! Defs that stand in many laws, told once: the bodies with the callees' places left open. -/
namespace Ev
open PySem
def freeB : Vr → Bool
  | .o p l _ => !p && !l
  | _ => true
theorem open_eq (ρ : Rho) (i : Nat) : open' ρ i = (decide (i < ρ.length) && freeB (get ρ i)) := by
  unfold open' freeB
  cases get ρ i with
  | o p l c => cases p <;> cases l <;> rfl
  | _ => rfl
@[simp] theorem freeB_no : freeB .no = true := rfl
@[simp] theorem freeB_d {x : PyData} : freeB (.d x) = true := rfl
@[simp] theorem freeB_x {c : Nat} {x : PyData} : freeB (.x c x) = true := rfl
@[simp] theorem freeB_o {c : Con} : freeB (.o false false c) = true := rfl
end Ev
namespace Lib
open PySem Ev
/-! sizes of what is shown -/
mutual
def nd : PyData → Nat
  | .list xs => nds xs + 1
  | .tuple xs => nds xs + 1
  | .none => 1
  | .bool _ => 1
  | .int _ => 1
  | .str _ => 1
  | .dict _ => 1
def nds : List PyData → Nat
  | [] => 0
  | d :: r => nd d + nds r
end
mutual
def fine : PyData → Bool
  | .int i => decide (-(10 ^ 35) < i) && decide (i < 10 ^ 35)
  | .str s => PyData.strOk s && decide (s.length ≤ 20)
  | .list xs => fines xs
  | .tuple xs => fines xs
  | .none => true
  | .bool _ => true
  | .dict _ => false
def fines : List PyData → Bool
  | [] => true
  | x :: r => fine x && fines r
end
theorem nds_app : ∀ l r : List PyData, nds (l ++ r) = nds l + nds r
  | [], r => by simp [nds]
  | d :: l, r => by simp only [List.cons_append, nds, nds_app l r]; omega
theorem fines_app : ∀ l r : List PyData, fines (l ++ r) = (fines l && fines r)
  | [], r => by simp [fines]
  | d :: l, r => by simp only [List.cons_append, fines, fines_app l r, Bool.and_assoc]
theorem depthAll_app : ∀ l r : List PyData, PyData.depthAll (l ++ r) = max (PyData.depthAll l) (PyData.depthAll r)
  | [], r => by simp [PyData.depthAll]
  | d :: l, r => by simp only [List.cons_append, PyData.depthAll, depthAll_app l r]; omega
theorem fines_all : ∀ {l : List PyData}, (∀ x ∈ l, fine x = true) → fines l = true
  | [], _ => rfl
  | x :: l, h => by simp only [fines, Bool.and_eq_true]; exact ⟨h x (List.mem_cons_self ..), fines_all fun y hy => h y (List.mem_cons_of_mem _ hy)⟩
theorem fine_mem {x : PyData} : ∀ {l : List PyData}, fines l = true → x ∈ l → fine x = true
  | y :: l, h, m => by
    simp only [fines, Bool.and_eq_true] at h
    rcases List.mem_cons.mp m with rfl | m
    · exact h.1
    · exact fine_mem h.2 m
theorem nds_le {k : Nat} : ∀ {l : List PyData}, (∀ x ∈ l, nd x ≤ k) → nds l ≤ l.length * k
  | [], _ => by simp [nds]
  | x :: l, h => by
    have h1 := h x (List.mem_cons_self ..)
    have h2 := nds_le fun y hy => h y (List.mem_cons_of_mem _ hy)
    simp only [nds, List.length_cons, Nat.add_mul, Nat.one_mul]; omega
theorem depthAll_le {k : Nat} : ∀ {l : List PyData}, (∀ x ∈ l, x.depth ≤ k) → PyData.depthAll l ≤ k
  | [], _ => by simp [PyData.depthAll]
  | x :: l, h => by
    have h1 := h x (List.mem_cons_self ..)
    have h2 := depthAll_le fun y hy => h y (List.mem_cons_of_mem _ hy)
    simp only [PyData.depthAll]; omega
theorem int_len {i : Int} (h0 : -(10 ^ 35) < i) (h1 : i < 10 ^ 35) : (PyData.shown (.int i)).length ≤ 120 := by
  have h : i.natAbs.log2 < 117 := log2_small (by decide) (by omega) (by omega)
  have := int_text_length_le (a := i) (k := 117) (by decide) h
  have e : (PyData.shown (.int i)).length = (toString i).length := by
    simp only [PyData.shown]
    rw [ofString_length]
  omega
mutual
theorem fine_ok : ∀ d : PyData, fine d = true → d.canLay0 = true ∧ d.showable = true ∧ d.hasDict = false ∧ d.leavesShort 120 = true ∧ d.weight + 1 ≤ 121 * nd d
  | .none, _ => by simp [PyData.canLay0, PyData.showable, PyData.hasDict, PyData.leavesShort, PyData.weight, nd]
  | .bool _, _ => by simp [PyData.canLay0, PyData.showable, PyData.hasDict, PyData.leavesShort, PyData.weight, nd]
  | .int i, h => by
    simp only [fine, Bool.and_eq_true, decide_eq_true_eq] at h
    have h2 : i.natAbs.log2 < 117 := log2_small (by decide) (by omega) (by omega)
    have h3 := int_len h.1 h.2
    refine ⟨by simp [PyData.canLay0], by simp only [PyData.showable, decide_eq_true_eq]; omega, by simp [PyData.hasDict], by simpa [PyData.leavesShort] using h3, ?_⟩
    simp only [PyData.weight, nd]
    split <;> omega
  | .str s, h => by
    simp only [fine, Bool.and_eq_true, decide_eq_true_eq] at h
    refine ⟨by simp [PyData.canLay0, h.1], by simp [PyData.showable], by simp [PyData.hasDict], ?_, ?_⟩
    · simp only [PyData.leavesShort, List.all_eq_true, decide_eq_true_eq]
      intro c hc
      have := h.1
      simp only [PyData.strOk, Array.all_eq_true, decide_eq_true_eq] at this
      obtain ⟨i, hi, e⟩ := List.getElem_of_mem hc
      have := this i (by simpa using hi)
      simp at e
      rw [e] at this
      omega
    · have := h.2
      simp only [PyData.weight, nd]
      show s.cps.size + 1 ≤ 121
      have : s.cps.size ≤ 20 := this
      omega
  | .list xs, h => by
    simp only [fine] at h
    obtain ⟨h1, h2, h3, h4, h5⟩ := fines_ok xs h
    refine ⟨by simpa [PyData.canLay0] using h1, by simpa [PyData.showable] using h2, by simpa [PyData.hasDict] using h3, by simpa [PyData.leavesShort] using h4, ?_⟩
    simp only [PyData.weight, nd]; omega
  | .tuple xs, h => by
    simp only [fine] at h
    obtain ⟨h1, h2, h3, h4, h5⟩ := fines_ok xs h
    refine ⟨by simpa [PyData.canLay0] using h1, by simpa [PyData.showable] using h2, by simpa [PyData.hasDict] using h3, by simpa [PyData.leavesShort] using h4, ?_⟩
    simp only [PyData.weight, nd]; omega
  | .dict _, h => by simp [fine] at h
theorem fines_ok : ∀ l : List PyData, fines l = true → PyData.canLayAll0 l = true ∧ PyData.showableAll l = true ∧ PyData.hasDictAll l = false ∧ PyData.leavesShortAll 120 l = true ∧ PyData.weightAll l ≤ 121 * nds l
  | [], _ => by simp [PyData.canLayAll0, PyData.showableAll, PyData.hasDictAll, PyData.leavesShortAll, PyData.weightAll, nds]
  | x :: l, h => by
    simp only [fines, Bool.and_eq_true] at h
    obtain ⟨a1, a2, a3, a4, a5⟩ := fine_ok x h.1
    obtain ⟨h1, h2, h3, h4, h5⟩ := fines_ok l h.2
    refine ⟨by simp [PyData.canLayAll0, a1, h1], by simp [PyData.showableAll, a2, h2], by simp [PyData.hasDictAll, a3, h3], by simp [PyData.leavesShortAll, a4, h4], ?_⟩
    simp only [PyData.weightAll, nds]; omega
end
theorem repr_fine {d : PyData} (h : fine d = true) (h1 : nd d ≤ 1000) (h2 : d.depth ≤ 64) : reprD [d] = some (.d (.str d.shown)) := by
  obtain ⟨a1, a2, a3, a4, a5⟩ := fine_ok d h
  have := PyData.shown_le 120 (by decide) d a4
  have hz : d.shown.length ≤ sizeLine := by unfold sizeLine; omega
  simp [reprD, a2, a3, h2, hz]
theorem shaped_fine {d : PyData} (h : fine d = true) (h2 : d.depth ≤ 64) : SeqAt.shaped d = true := by
  simp [SeqAt.shaped, (fine_ok d h).1, h2]
mutual
theorem eqv_fine : ∀ d : PyData, fine d = true → PyData.eqv d d = true
  | .none, _ => by simp [PyData.eqv]
  | .bool _, _ => by simp [PyData.eqv]
  | .int _, _ => by simp [PyData.eqv]
  | .str _, _ => by simp [PyData.eqv]
  | .list xs, h => by rw [PyData.eqv]; exact eqvs_fine xs (by simpa [fine] using h)
  | .tuple xs, h => by rw [PyData.eqv]; exact eqvs_fine xs (by simpa [fine] using h)
  | .dict _, h => by simp [fine] at h
theorem eqvs_fine : ∀ l : List PyData, fines l = true → PyData.eqvAll l l = true
  | [], _ => by simp [PyData.eqvAll]
  | x :: l, h => by
    simp only [fines, Bool.and_eq_true] at h
    simp [PyData.eqvAll, eqv_fine x h.1, eqvs_fine l h.2]
end
theorem part_take {α : Type} {xs : List α} {k : Int} (h0 : 0 ≤ k) (h : k ≤ xs.length) : part xs none (some k) = xs.take k.toNat := by
  unfold part HT.sIx
  simp only [if_neg (show ¬ k < 0 by omega), List.drop_zero, Nat.sub_zero]
  rw [Nat.min_eq_left (by omega)]
theorem part_drop {α : Type} {xs : List α} {k : Int} (h0 : 0 ≤ k) (h : k ≤ xs.length) : part xs (some k) none = xs.drop k.toNat := by
  unfold part HT.sIx
  simp only [if_neg (show ¬ k < 0 by omega)]
  rw [Nat.min_eq_left (by omega)]
  exact List.take_of_length_le (by simp)
theorem part_mem {α : Type} {xs : List α} {lo hi : Option Int} {x : α} (h : x ∈ part xs lo hi) : x ∈ xs := List.mem_of_mem_drop (List.mem_of_mem_take h)
theorem at_int {α : Type} {xs : List α} {p : Int} (h0 : 0 ≤ p) (h : p < xs.length) : ∃ x, L2.atI xs p = some x ∧ x ∈ xs := by
  obtain ⟨k, rfl⟩ := Int.eq_ofNat_of_zero_le h0
  have hk : k < xs.length := by omega
  exact ⟨xs[k], by rw [at_nat hk, List.getElem?_eq_getElem hk], List.getElem_mem hk⟩

/-! is_integer, is_natural, is_between -/
def isInt : PyData → Bool
  | .int _ => true
  | _ => false
def isNat : PyData → Bool
  | .int i => decide (0 ≤ i)
  | _ => false
def isBet (d : PyData) (a b : PyData) : Bool := match d, a, b with
  | .int i, .int lo, .int hi => decide (lo ≤ i) && decide (i ≤ hi)
  | _, _, _ => false
def isIntB : Sts := (.cons (.ret (.band (.isi .int (.var 0)) (.cons (.lnot (.isi .bool (.var 0))) .nil))) .nil)
def isNatB (f : Nat) : Sts := (.cons (.ret (.band (.call f (.val (.var 0) .nil)) (.cons (.cmp .GtE (.var 0) (.lit (.int 0))) .nil))) .nil)
def isBetB (f : Nat) : Sts := (.cons (.ret (.band (.call f (.val (.var 0) .nil)) (.cons (.chain .LtE .LtE (.var 1) (.var 0) (.var 2)) .nil))) .nil)
section
variable (U : Consts) (C : Calls)
theorem isInt_run (d : PyData) : Fd.run U C ⟨1, 1, isIntB⟩ [.d d] = .ret (.d (.bool (isInt d))) [.d d] := by
  simp only [run_def, isIntB, Fd.enter]
  cases d <;> simp [leave, store, setAt, rdk, idxO, cmpO,  put, puts, keeps, keep, toVr, putAll, open_eq, Tg.to, rd, fz, callO, Ag.slots, Ag.avs, Ag.back, isA, hold, bltD, idxD, List.mapM_cons, List.mapM_nil, Option.bind, isInt]
theorem isNat_run (f : Nat) (h : ∀ d, C f [.d d] = .ret (.d (.bool (isInt d))) [.d d]) (d : PyData) : Fd.run U C ⟨1, 1, isNatB f⟩ [.d d] = .ret (.d (.bool (isNat d))) [.d d] := by
  simp only [run_def, isNatB, Fd.enter]
  cases d <;> simp [leave, store, setAt, rdk, idxO, cmpO,  put, puts, keeps, keep, toVr, putAll, open_eq, Tg.to, rd, fz, callO, Ag.slots, Ag.avs, Ag.back, isA, hold, bltD, idxD, List.mapM_cons, List.mapM_nil, Option.bind, h, isInt, isNat]
theorem isBet_run (f : Nat) (h : ∀ d, C f [.d d] = .ret (.d (.bool (isInt d))) [.d d]) (d a b : PyData) (hi : ∀ i, d = .int i → ∃ x y, a = .int x ∧ b = .int y) : Fd.run U C ⟨3, 3, isBetB f⟩ [.d d, .d a, .d b] = .ret (.d (.bool (isBet d a b))) [.d d, .d a, .d b] := by
  simp only [run_def, isBetB, Fd.enter]
  cases d with
  | int i =>
    obtain ⟨x, y, rfl, rfl⟩ := hi i rfl
    by_cases c : x ≤ i <;> simp [leave, store, setAt, rdk, idxO, cmpO,  put, puts, keeps, keep, toVr, putAll, open_eq, Tg.to, rd, fz, callO, Ag.slots, Ag.avs, Ag.back, isA, hold, bltD, idxD, List.mapM_cons, List.mapM_nil, Option.bind, h, isInt, isBet, c]
  | _ => simp [leave, store, setAt, rdk, idxO, cmpO,  put, puts, keeps, keep, toVr, putAll, open_eq, Tg.to, rd, fz, callO, Ag.slots, Ag.avs, Ag.back, isA, hold, bltD, idxD, List.mapM_cons, List.mapM_nil, Option.bind, h, isInt, isBet]
end

/-! the spring -/
def drawB : Sts := (.cons (.ite (.cmp .Gt (.idx (.var 0) (.lit (.int 0))) (.lit (.int 0))) (.cons (.asg 2 (.bin .Mod (.blt .int (.cons (.idx (.var 0) (.lit (.int 0))) .nil)) (.var 1))) (.cons (.setIx 0 (.lit (.int 0)) (.bin .FloorDiv (.idx (.var 0) (.lit (.int 0))) (.var 1))) (.cons (.ret (.var 2)) .nil))) .nil) (.cons (.setIx 0 (.lit (.int 1)) (.bin .Mod (.blt .int (.cons (.bin .Add (.bin .Mult (.idx (.var 0) (.lit (.int 1))) (.lit (.int 4811295983708204869))) (.lit (.int 1234567891011))) .nil)) (.bin .Add (.bin .Pow (.lit (.int 10)) (.lit (.int 29))) (.lit (.int 319))))) (.cons (.ret (.bin .Mod (.blt .int (.cons (.bin .FloorDiv (.idx (.var 0) (.lit (.int 1))) (.bin .Pow (.lit (.int 10)) (.lit (.int 10)))) .nil)) (.var 1))) .nil)))
def Spr (w : List PyData) : Prop := ∃ a b : Int, w = [.int a, .int b] ∧ 0 ≤ a ∧ 0 ≤ b
theorem p10 : binD .Pow (.int 10) (.int 10) = some (.d (.int 10000000000)) := bin_pow (show powOk 10 10 = true by decide +kernel)
theorem p18 : binD .Pow (.int 10) (.int 18) = some (.d (.int 1000000000000000000)) := bin_pow (show powOk 10 18 = true by decide +kernel)
theorem p27 : binD .Pow (.int 10) (.int 27) = some (.d (.int 1000000000000000000000000000)) := bin_pow (show powOk 10 27 = true by decide +kernel)
theorem p29 : binD .Pow (.int 10) (.int 29) = some (.d (.int 100000000000000000000000000000)) := bin_pow (show powOk 10 29 = true by decide +kernel)
theorem p30 : binD .Pow (.int 10) (.int 30) = some (.d (.int 1000000000000000000000000000000)) := bin_pow (show powOk 10 30 = true by decide +kernel)
section
variable (U : Consts) (C : Calls)
theorem draw_run {w : List PyData} (h : Spr w) {m : Int} (h0 : 0 < m) (h1 : m < 10 ^ 60) :
    ∃ r w', Fd.run U C ⟨2, 3, drawB⟩ [.o (.lst w), .d (.int m)] = .ret (.d (.int r)) [.o true false (.lst w'), .d (.int m)] ∧ 0 ≤ r ∧ r < m ∧ Spr w' := by
  obtain ⟨a, b, rfl, ha, hb⟩ := h
  by_cases c : 0 < a
  · refine ⟨a % m, [.int (a / m), .int b], ?_, Int.emod_nonneg _ (by omega), Int.emod_lt_of_pos _ h0, _, _, rfl, Int.ediv_nonneg ha (by omega), hb⟩
    simp only [run_def, drawB, Fd.enter]
    simp [leave, store, setAt, rdk, idxO, cmpO,  put, puts, keeps, keep, toVr, putAll, open_eq, Tg.to, rd, fz, callO, Ag.slots, Ag.avs, Ag.back, isA, hold, bltD, idxD, List.mapM_cons, List.mapM_nil, Option.bind, intD, c, bin_mod h0, bin_div h0 h1, L2.ixN]
  · obtain ⟨M, hM⟩ : ∃ M : Int, M = (b * 4811295983708204869 + 1234567891011) % 100000000000000000000000000319 := ⟨_, rfl⟩
    have hM0 : 0 ≤ M := hM ▸ Int.emod_nonneg _ (by decide)
    refine ⟨M / 10000000000 % m, [.int a, .int M], ?_, Int.emod_nonneg _ (by omega), Int.emod_lt_of_pos _ h0, _, _, rfl, ha, hM0⟩
    simp only [run_def, drawB, Fd.enter]
    simp [leave, store, setAt, rdk, idxO, cmpO,  put, puts, keeps, keep, toVr, putAll, open_eq, Tg.to, rd, fz, callO, Ag.slots, Ag.avs, Ag.back, isA, hold, bltD, idxD, List.mapM_cons, List.mapM_nil, Option.bind, intD, c, bin_mod, h0, bin_div, L2.ixN, bin_mul (mul_right (j := 4811295983708204869) (by decide) (by decide)), p29, p10, ← hM]
end
def springL : Sts := (.cons (.asg 2 (.bin .Mod (.blt .int (.cons (.bin .Add (.bin .Add (.bin .Add (.bin .Mult (.var 2) (.lit (.int 6700417))) (.bin .Mod (.blt .abs (.cons (.blt .int (.cons (.var 5) .nil)) .nil)) (.bin .Add (.bin .Pow (.lit (.int 10)) (.lit (.int 27))) (.lit (.int 103))))) (.bin .Mult (.lit (.int 3)) (.var 4))) (.blt .int (.cons (.cmp .Lt (.var 5) (.lit (.int 0))) .nil))) .nil)) (.bin .Add (.bin .Pow (.lit (.int 10)) (.lit (.int 29))) (.lit (.int 319))))) .nil)
def springB : Sts := (.cons (.asg 2 (.bin .Add (.bin .Add (.lit (.int 71)) (.bin .Mult (.lit (.int 19)) (.var 1))) (.blt .len (.cons (.slc (.var 0) .nil (.cons (.lit (.int 63)) .nil)) .nil)))) (.cons (.forr (.tp [4, 5]) (.enum (.slc (.var 0) .nil (.cons (.lit (.int 63)) .nil))) springL) (.cons (.asg 3 (.ite (.cmp .Lt (.var 1) (.blt .len (.cons (.var 0) .nil))) (.blt .abs (.cons (.blt .int (.cons (.idx (.var 0) (.var 1)) .nil)) .nil)) (.lit (.int 0)))) (.cons (.ret (.lst (.cons (.blt .max2 (.cons (.lit (.int 0)) (.cons (.bin .Sub (.var 3) (.bin .Pow (.lit (.int 10)) (.lit (.int 18)))) .nil))) (.cons (.var 2) .nil)))) .nil))))
section
variable (U : Consts) (C : Calls)
theorem spring_loop (S P : PyData) (mix : Int) (hm : 0 ≤ mix) (xs : List PyData) (hx : ∀ x ∈ xs, ∃ p v, x = .tuple [.int p, .int v]) :
    ∃ y z mix', forE U C (.tp [4, 5]) springL xs [.d S, .d P, .d (.int mix), .no, .no, .no] = .ok .nx [.d S, .d P, .d (.int mix'), .no, y, z] ∧ 0 ≤ mix' ∧ freeB y = true ∧ freeB z = true := by
  have := forE_rel (U := U) (C := C) (tg := .tp [4, 5]) (b := springL) (xs := xs) (ρ := [.d S, .d P, .d (.int mix), .no, .no, .no])
    (I := fun _ ρ => ∃ y z mix', ρ = [.d S, .d P, .d (.int mix'), .no, y, z] ∧ 0 ≤ mix' ∧ freeB y = true ∧ freeB z = true) ⟨_, _, _, rfl, hm, rfl, rfl⟩ (by
      rintro x r ρ hmem ⟨y, z, mix', rfl, hm', hy, hz⟩
      obtain ⟨p, v, rfl⟩ := hx x hmem
      obtain ⟨M, hM⟩ : ∃ M : Int, M = (mix' * 6700417 + absI v % 1000000000000000000000000103 + 3 * p + (if decide (v < 0) = true then 1 else 0)) % 100000000000000000000000000319 := ⟨_, rfl⟩
      refine ⟨[.d S, .d P, .d (.int mix'), .no, .d (.int p), .d (.int v)], [.d S, .d P, .d (.int M), .no, .d (.int p), .d (.int v)], ?_, .inl ?_, _, _, _, rfl, hM ▸ Int.emod_nonneg _ (by decide), rfl, rfl⟩
      · simp [leave, store, setAt, rdk, idxO, cmpO,  put, puts, keeps, keep, toVr, putAll, open_eq, Tg.to, rd, fz, callO, Ag.slots, Ag.avs, Ag.back, isA, hold, bltD, idxD, List.mapM_cons, List.mapM_nil, Option.bind, hy, hz]
      · rw [hM]
        simp [leave, store, setAt, rdk, idxO, cmpO,  put, puts, keeps, keep, toVr, putAll, open_eq, Tg.to, rd, fz, callO, Ag.slots, Ag.avs, Ag.back, isA, hold, bltD, idxD, List.mapM_cons, List.mapM_nil, Option.bind, springL, intD, abs_int, bin_mul (mul_right (j := 6700417) (by decide) (by decide)), bin_mul (mul_left (i := 3) (by decide) (by decide)), p27, p29, bin_mod])
  obtain ⟨ρ', e, y, z, mix', rfl, h1, h2, h3⟩ := this
  exact ⟨y, z, mix', e, h1, h2, h3⟩
theorem spring_run (ns : List Int) (hl : ns.length ≤ 63) (p : Int) (h0 : 0 ≤ p) :
    ∃ w, Fd.run U C ⟨2, 6, springB⟩ [.d (.list (ns.map .int)), .d (.int p)] = .ret (.o (.lst w)) [.d (.list (ns.map .int)), .d (.int p)] ∧ Spr w := by
  have hz : ns.length ≤ sizeLine := by unfold sizeLine; omega
  have hp : part (ns.map PyData.int) none (some 63) = ns.map .int := by
    unfold part HT.sIx
    simp only [if_neg (show ¬ (63 : Int) < 0 by omega), List.drop_zero, Nat.sub_zero]
    exact List.take_of_length_le (by simp; omega)
  have hx : ∀ x ∈ Ev.numbered (ns.map PyData.int), ∃ p v, x = .tuple [.int p, .int v] := fun x hx => by
    simp only [Ev.numbered, List.mem_map] at hx
    obtain ⟨⟨k, y⟩, h1, rfl⟩ := hx
    obtain ⟨v, _, rfl⟩ := List.mem_map.mp (List.of_mem_zip h1).2
    exact ⟨_, _, rfl⟩
  obtain ⟨L, hL⟩ : ∃ L : Int, L = ns.length := ⟨_, rfl⟩
  have hn : lenD [.list (ns.map .int)] = some (.d (.int L)) := by simp [lenD, hz, hL]
  obtain ⟨y, z, mix', e, hm, hy, hz'⟩ := spring_loop U C (.list (ns.map .int)) (.int p) (71 + 19 * p + L) (by omega) _ hx
  have fin : ∀ cell : Int, Spr [.int (posI (cell - 1000000000000000000)), .int mix'] := fun cell => ⟨_, _, rfl, posI_nn _, hm⟩
  by_cases h : p < L
  · obtain ⟨x, a1, hx⟩ := at_int (xs := ns.map PyData.int) h0 (by simpa [← hL] using h)
    obtain ⟨v, _, rfl⟩ := List.mem_map.mp hx
    refine ⟨_, ?_, fin (absI v)⟩
    simp only [run_def, springB, Fd.enter]
    simp [leave, store, setAt, rdk, idxO, cmpO,  put, puts, keeps, keep, toVr, putAll, open_eq, Tg.to, rd, fz, callO, Ag.slots, Ag.avs, Ag.back, isA, hold, bltD, idxD, List.mapM_cons, List.mapM_nil, Option.bind, intD, hn, abs_int, max_zero, h, a1, bin_mul (mul_left (i := 19) (by decide) (by decide)), slcD, small, hp, items, e, p18]
  · refine ⟨_, ?_, fin 0⟩
    simp only [run_def, springB, Fd.enter]
    simp [leave, store, setAt, rdk, idxO, cmpO,  put, puts, keeps, keep, toVr, putAll, open_eq, Tg.to, rd, fz, callO, Ag.slots, Ag.avs, Ag.back, isA, hold, bltD, idxD, List.mapM_cons, List.mapM_nil, Option.bind, intD, hn, abs_int, max_zero, h, bin_mul (mul_left (i := 19) (by decide) (by decide)), slcD, small, hp, items, e, p18]
end

/-! _law_same, by repr -/
def sameB : Sts := (.cons (.ret (.cmp .Eq (.blt .repr (.cons (.var 0) .nil)) (.blt .repr (.cons (.var 1) .nil)))) .nil)
theorem same_run (U : Consts) (C : Calls) (d : PyData) (h : fine d = true) (h1 : nd d ≤ 1000) (h2 : d.depth ≤ 64) : Fd.run U C ⟨2, 2, sameB⟩ [.d d, .d d] = .ret (.d (.bool true)) [.d d, .d d] := by
  simp only [run_def, sameB, Fd.enter]
  simp [leave, store, setAt, rdk, idxO, cmpO,  put, puts, keeps, keep, toVr, putAll, open_eq, Tg.to, rd, fz, callO, Ag.slots, Ag.avs, Ag.back, isA, hold, bltD, idxD, List.mapM_cons, List.mapM_nil, Option.bind, repr_fine h h1 h2]
end Lib
namespace Lib
open PySem Ev
section
variable {U : Consts} {C : Calls} {own : List Nat} {tg : Tg} {cs : Exs} {e : Ex} {b : Sts} {acc : List PyData} {ρ : Rho}
theorem lcE_nil : lcE U C own tg cs e [] acc ρ = .ok acc ρ := rfl
theorem lcE_cons {x : PyData} {r : List PyData} : lcE U C own tg cs e (x :: r) acc ρ = match tg.to x ρ with
    | none => .stuck
    | some ρ1 => (evConds U C cs ρ1).bind fun t ρ2 => if t then ((evE U C e ρ2).bind fun v ρ' => fz ρ' v).bind fun y ρ3 => if acc.length < sizeLine then lcE U C own tg cs e r (acc ++ [y]) (wipeR ρ3 own) else .stuck
      else lcE U C own tg cs e r acc (wipeR ρ2 own) := rfl
/-- a for that gathers -/
theorem forE_acc {R : List PyData → Rho → Prop} {F : PyData → List PyData} {L : Nat} : ∀ {xs acc : List PyData} {ρ : Rho}, acc.length + (xs.flatMap F).length ≤ L → R acc ρ →
    (∀ x ∈ xs, ∀ acc ρ, acc.length + (F x).length ≤ L → R acc ρ → ∃ ρ1 ρ2, tg.to x ρ = some ρ1 ∧ runSs U C b ρ1 = .ok .nx ρ2 ∧ R (acc ++ F x) ρ2) → ∃ ρ', forE U C tg b xs ρ = .ok .nx ρ' ∧ R (acc ++ xs.flatMap F) ρ'
  | [], acc, ρ, _, hi, _ => ⟨ρ, rfl, by simpa using hi⟩
  | x :: xs, acc, ρ, hl, hi, h => by
    simp only [List.flatMap_cons, List.length_append] at hl
    obtain ⟨ρ1, ρ2, h1, h2, h3⟩ := h x (List.mem_cons_self ..) acc ρ (by omega) hi
    obtain ⟨ρ', e1, e2⟩ := forE_acc (xs := xs) (by simp only [List.length_append]; omega) h3 fun z hz => h z (List.mem_cons_of_mem _ hz)
    refine ⟨ρ', ?_, by simpa using e2⟩
    rw [forE_cons, h1]
    simp only [h2, Out.bind_ok, e1]
theorem flat_len {F : PyData → List PyData} {c : Nat} : ∀ {xs : List PyData}, (∀ x ∈ xs, (F x).length ≤ c) → (xs.flatMap F).length ≤ xs.length * c
  | [], _ => by simp
  | x :: xs, h => by
    have h1 := h x (List.mem_cons_self ..)
    have h2 := flat_len fun y hy => h y (List.mem_cons_of_mem _ hy)
    simp only [List.flatMap_cons, List.length_append, List.length_cons, Nat.add_mul, Nat.one_mul]; omega
end
end Lib
namespace Lib
open PySem Ev
@[simp] theorem isBet_int {i a b : Int} : isBet (.int i) (.int a) (.int b) = (decide (a ≤ i) && decide (i ≤ b)) := rfl
@[simp] theorem isBet_none {a b : PyData} : isBet .none a b = false := rfl
@[simp] theorem isBet_bool {x : Bool} {a b : PyData} : isBet (.bool x) a b = false := rfl
@[simp] theorem isBet_str {x : Str} {a b : PyData} : isBet (.str x) a b = false := rfl
@[simp] theorem isBet_list {x : List PyData} {a b : PyData} : isBet (.list x) a b = false := rfl
@[simp] theorem isBet_tuple {x : List PyData} {a b : PyData} : isBet (.tuple x) a b = false := rfl
@[simp] theorem isBet_dict {x : List (PyData × PyData)} {a b : PyData} : isBet (.dict x) a b = false := rfl
@[simp] theorem isNat_int {i : Int} : isNat (.int i) = decide (0 ≤ i) := rfl
@[simp] theorem isNat_none : isNat .none = false := rfl
@[simp] theorem isNat_bool {x : Bool} : isNat (.bool x) = false := rfl
@[simp] theorem isNat_str {x : Str} : isNat (.str x) = false := rfl
@[simp] theorem isNat_list {x : List PyData} : isNat (.list x) = false := rfl
@[simp] theorem isNat_tuple {x : List PyData} : isNat (.tuple x) = false := rfl
@[simp] theorem isNat_dict {x : List (PyData × PyData)} : isNat (.dict x) = false := rfl
end Lib
namespace Ev
@[simp] theorem reord_01 {α : Type} {a b : α} : reord [0, 1] [a, b] = [a, b] := rfl
@[simp] theorem reord_10 {α : Type} {a b : α} : reord [1, 0] [a, b] = [b, a] := rfl
@[simp] theorem reord_012 {α : Type} {a b c : α} : reord [0, 1, 2] [a, b, c] = [a, b, c] := rfl
@[simp] theorem reord_021 {α : Type} {a b c : α} : reord [0, 2, 1] [a, b, c] = [a, c, b] := rfl
@[simp] theorem reord_102 {α : Type} {a b c : α} : reord [1, 0, 2] [a, b, c] = [b, a, c] := rfl
@[simp] theorem reord_210 {α : Type} {a b c : α} : reord [2, 1, 0] [a, b, c] = [c, b, a] := rfl
end Ev

set_option linter.all false
set_option maxRecDepth 100000
/-! Terms; the well. -/
namespace Lib
open PySem Ev
/-! ### terms -/
inductive Tm where
  | int (k : Int)
  | sum (ts : List Tm)
  | lim (t : Tm)
  | dust (t : Tm)
mutual
def enc : Tm → PyData
  | .int k => .int k
  | .sum ts => .tuple (.str "sum" :: encs ts)
  | .lim t => .tuple [.str "limit", enc t]
  | .dust t => .tuple [.str "dust", enc t]
def encs : List Tm → List PyData
  | [] => []
  | t :: ts => enc t :: encs ts
end
mutual
/-- how many signs -/
def cnt : Tm → Nat
  | .int _ => 1
  | .sum ts => cnts ts + 1
  | .lim t => cnt t + 1
  | .dust t => cnt t + 1
def cnts : List Tm → Nat
  | [] => 0
  | t :: ts => cnt t + cnts ts
end
mutual
def okT : Tm → Bool
  | .int k => decide (0 ≤ k)
  | .sum ts => decide (2 ≤ ts.length) && oksT ts
  | .lim t => okT t
  | .dust t => okT t
def oksT : List Tm → Bool
  | [] => true
  | t :: ts => okT t && oksT ts
end
mutual
def dep : Tm → Nat
  | .int _ => 0
  | .sum ts => deps ts + 1
  | .lim t => dep t + 1
  | .dust t => dep t + 1
def deps : List Tm → Nat
  | [] => 0
  | t :: ts => max (dep t) (deps ts)
end
theorem encs_len : ∀ ts : List Tm, (encs ts).length = ts.length
  | [] => rfl
  | t :: ts => by simp [encs, encs_len ts]
theorem encs_app : ∀ l r : List Tm, encs (l ++ r) = encs l ++ encs r
  | [], r => by simp [encs]
  | t :: l, r => by simp [encs, encs_app l r]
theorem encs_map : ∀ l : List Tm, encs l = l.map enc
  | [] => rfl
  | t :: l => by simp [encs, encs_map l]
theorem cnts_app : ∀ l r : List Tm, cnts (l ++ r) = cnts l + cnts r
  | [], r => by simp [cnts]
  | t :: l, r => by simp only [List.cons_append, cnts, cnts_app l r]; omega
theorem oksT_app : ∀ l r : List Tm, oksT (l ++ r) = (oksT l && oksT r)
  | [], r => by simp [oksT]
  | t :: l, r => by simp only [List.cons_append, oksT, oksT_app l r, Bool.and_assoc]
theorem cnt_pos (t : Tm) : 0 < cnt t := by cases t <;> simp [cnt]
theorem cnts_len : ∀ l : List Tm, l.length ≤ cnts l
  | [] => by simp [cnts]
  | t :: l => by
    have := cnt_pos t
    have := cnts_len l
    simp only [cnts, List.length_cons]; omega
def innerT : Tm → List Tm
  | .int _ => []
  | .sum ts => ts
  | .lim t => [t]
  | .dust t => [t]
theorem inner_cnt (t : Tm) : cnts (innerT t) < cnt t := by cases t <;> simp [innerT, cnts, cnt]
theorem inner_ok {t : Tm} (h : okT t = true) : oksT (innerT t) = true := by
  cases t with
  | int k => rfl
  | sum ts => simp only [okT, Bool.and_eq_true] at h; exact h.2
  | lim t => simpa [okT, innerT, oksT] using h
  | dust t => simpa [okT, innerT, oksT] using h
theorem litT : ((("limit" : Str) == "sum") = false ∧ (("dust" : Str) == "sum") = false ∧ (("sum" : Str) == "limit") = false ∧ (("sum" : Str) == "dust") = false ∧ (("limit" : Str) == "dust") = false ∧ (("dust" : Str) == "limit") = false) := by decide +kernel
def powersD : PyData := .tuple [.str "limit", .str "dust"]
theorem powers_ok : SeqAt.shaped powersD = true := by decide +kernel
theorem in_powers {s : Str} (h : PyData.strOk s = true) : cmpD .In (.str s) powersD = some (("limit" == s) || ("dust" == s)) := by
  rw [powersD, cmp_in_tup (shaped_str h) powers_ok]
  simp
def toldB (f g : Nat) : Sts := (.cons (.ite (.call f (.val (.var 0) .nil)) (.cons (.ret (.ite (.cmp .GtE (.var 0) (.lit (.int 0))) (.tup .nil) (.lit (.none)))) .nil) .nil) (.cons (.ite (.bor (.lnot (.isi .tuple (.var 0))) (.cons (.cmp .Lt (.blt .len (.cons (.var 0) .nil)) (.lit (.int 2))) (.cons (.lnot (.isi .str (.idx (.var 0) (.lit (.int 0))))) .nil))) (.cons (.ret (.lit (.none))) .nil) .nil) (.cons (.ite (.cmp .Eq (.idx (.var 0) (.lit (.int 0))) (.lit (.str "sum"))) (.cons (.ret (.ite (.cmp .Gt (.blt .len (.cons (.var 0) .nil)) (.lit (.int 2))) (.slc (.var 0) (.cons (.lit (.int 1)) .nil) .nil) (.lit (.none)))) .nil) .nil) (.cons (.ret (.ite (.band (.cmp .In (.idx (.var 0) (.lit (.int 0))) (.glob g)) (.cons (.cmp .Eq (.blt .len (.cons (.var 0) .nil)) (.lit (.int 2))) .nil)) (.slc (.var 0) (.cons (.lit (.int 1)) .nil) .nil) (.lit (.none)))) .nil))))
section
variable (U : Consts) (C : Calls)
theorem told_run (f g : Nat) (hU : U.dat[g]? = some powersD) (h : ∀ d, C f [.d d] = .ret (.d (.bool (isInt d))) [.d d]) (t : Tm) (ho : okT t = true) (hl : cnt t ≤ 10000) : Fd.run U C ⟨1, 1, toldB f g⟩ [.d (enc t)] = .ret (.d (.tuple (encs (innerT t)))) [.d (enc t)] := by
  obtain ⟨l1, l2, l3, l4, l5, l6⟩ := litT
  simp only [run_def, toldB, Fd.enter]
  cases t with
  | int k =>
    simp only [okT, decide_eq_true_eq] at ho
    simp [leave, store, setAt, rdk, idxO, cmpO,  put, puts, keeps, keep, toVr, putAll, open_eq, Tg.to, rd, fz, callO, Ag.slots, Ag.avs, Ag.back, isA, hold, bltD, idxD, List.mapM_cons, List.mapM_nil, Option.bind, h, enc, isInt, ho, innerT, encs]
  | sum ts =>
    simp only [okT, Bool.and_eq_true, decide_eq_true_eq] at ho
    have e := encs_len ts
    simp only [cnt] at hl
    have q := cnts_len ts
    obtain ⟨L, hL⟩ : ∃ L : Int, L = (encs ts).length + 1 := ⟨_, rfl⟩
    have hz : lenD [.tuple (.str "sum" :: encs ts)] = some (.d (.int L)) := by
      have : (encs ts).length + 1 ≤ sizeLine := by unfold sizeLine; omega
      simp [lenD, this, hL]
    have hp : slcD (.tuple (.str "sum" :: encs ts)) (some 1) none = some (.d (.tuple (encs ts))) := by
      simp only [slcD, small, part_one]; rfl
    have c1 : ¬ L < 2 := by omega
    have c2 : 2 < L := by omega
    simp [leave, store, setAt, rdk, idxO, cmpO,  put, puts, keeps, keep, toVr, putAll, open_eq, Tg.to, rd, fz, callO, Ag.slots, Ag.avs, Ag.back, isA, hold, bltD, idxD, List.mapM_cons, List.mapM_nil, Option.bind, h, enc, isInt, innerT, hz, hp, c1, c2]
  | lim t =>
    have hp : slcD (.tuple [.str "limit", enc t]) (some 1) none = some (.d (.tuple [enc t])) := by
      simp only [slcD, small, part_one]; rfl
    simp [leave, store, setAt, rdk, idxO, cmpO,  put, puts, keeps, keep, toVr, putAll, open_eq, Tg.to, rd, fz, callO, Ag.slots, Ag.avs, Ag.back, isA, hold, bltD, idxD, List.mapM_cons, List.mapM_nil, Option.bind, h, enc, isInt, innerT, encs, lenD, l1, hU, in_powers (s := "limit") (by decide +kernel), hp]
  | dust t =>
    have hp : slcD (.tuple [.str "dust", enc t]) (some 1) none = some (.d (.tuple [enc t])) := by
      simp only [slcD, small, part_one]; rfl
    simp [leave, store, setAt, rdk, idxO, cmpO,  put, puts, keeps, keep, toVr, putAll, open_eq, Tg.to, rd, fz, callO, Ag.slots, Ag.avs, Ag.back, isA, hold, bltD, idxD, List.mapM_cons, List.mapM_nil, Option.bind, h, enc, isInt, innerT, encs, lenD, l2, hU, in_powers (s := "dust") (by decide +kernel), hp]
end
def termC : Ex := .cmp .Gt (.blt .len (.cons (.var 1) .nil)) (.lit (.int 0))
def termL (f : Nat) : Sts := (.cons (.asg 2 (.call f (.val (.pop 1) .nil))) (.cons (.ite (.isN false (.var 2)) (.cons (.ret (.lit (.bool false))) .nil) .nil) (.cons (.exs (.ext 1 (.var 2))) .nil)))
def termB (f : Nat) : Sts := (.cons (.asg 1 (.lst (.cons (.var 0) .nil))) (.cons (.whl termC (termL f)) (.cons (.ret (.lit (.bool true))) .nil)))
section
variable (U : Consts) (C : Calls)
theorem term_loop (f : Nat) (h : ∀ t, okT t = true → cnt t ≤ 10000 → C f [.d (enc t)] = .ret (.d (.tuple (encs (innerT t)))) [.d (enc t)]) (t0 : PyData) : ∀ (k : Nat) (ws : List Tm) (x : Vr), freeB x = true → oksT ws = true → cnts ws < k → cnts ws ≤ 10000 →
    ∃ x', whlE U C termC (termL f) k [.d t0, .o false false (.lst (encs ws)), x] = .ok .nx [.d t0, .o false false (.lst []), x'] := by
  intro k
  induction k with
  | zero => intro ws x _ _ h; omega
  | succ k ih =>
    intro ws x hx ho hk hs
    have s0 : (0 : Nat) ≤ sizeLine := by decide
    rcases List.eq_nil_or_concat ws with rfl | ⟨l, t, rfl⟩
    · refine ⟨x, ?_⟩
      rw [whlE_succ]
      simp [termC, leave, store, setAt, rdk, idxO, cmpO,  put, puts, keeps, keep, toVr, putAll, open_eq, Tg.to, rd, fz, callO, Ag.slots, Ag.avs, Ag.back, isA, hold, bltD, idxD, List.mapM_cons, List.mapM_nil, Option.bind, lenD, encs]
    · simp only [List.concat_eq_append] at *
      rw [oksT_app] at ho
      simp only [oksT, Bool.and_eq_true, Bool.and_true] at ho
      rw [cnts_app] at hk hs
      simp only [cnts] at hk hs
      have q1 := inner_cnt t
      have q2 := cnts_app l (innerT t)
      have q3 := cnts_len (l ++ innerT t)
      have q4 := cnt_pos t
      have q5 := cnts_len l
      obtain ⟨x', e⟩ := ih (l ++ innerT t) (.d (.tuple (encs (innerT t)))) rfl (by rw [oksT_app, ho.1, inner_ok ho.2]; rfl) (by omega) (by omega)
      refine ⟨x', ?_⟩
      rw [List.length_append] at q3
      obtain ⟨L, hL⟩ : ∃ L : Int, L = (encs l).length + 1 := ⟨_, rfl⟩
      have e1 := encs_len l
      have e2 := encs_len (innerT t)
      have hz : lenD [.list (encs l ++ [enc t])] = some (.d (.int L)) := by
        have : (encs l ++ [enc t]).length ≤ sizeLine := by unfold sizeLine; simp; omega
        simp only [lenD, if_pos this]; simp [hL]
      have c1 : (0 : Int) < L := by omega
      have hz2 : (encs l).length + (encs (innerT t)).length ≤ sizeLine := by unfold sizeLine; omega
      rw [whlE_succ, encs_app]
      rw [encs_app] at e
      simp [termC, termL, leave, store, setAt, rdk, idxO, cmpO,  put, puts, keeps, keep, toVr, putAll, open_eq, Tg.to, rd, fz, callO, Ag.slots, Ag.avs, Ag.back, isA, hold, bltD, idxD, List.mapM_cons, List.mapM_nil, Option.bind, encs, hz, c1, h t ho.2 (by omega), hx, isNon, eq_true hz2]
      exact e
theorem term_run (f : Nat) (h : ∀ t, okT t = true → cnt t ≤ 10000 → C f [.d (enc t)] = .ret (.d (.tuple (encs (innerT t)))) [.d (enc t)]) (t : Tm) (ho : okT t = true) (hs : cnt t ≤ 10000) : Fd.run U C ⟨1, 3, termB f⟩ [.d (enc t)] = .ret (.d (.bool true)) [.d (enc t)] := by
  obtain ⟨x', e⟩ := term_loop U C f h (enc t) WF [t] .no rfl (by simp [oksT, ho]) (by simp only [cnts]; unfold WF; omega) (by simp only [cnts]; omega)
  simp only [run_def, termB, Fd.enter]
  simp only [encs] at e
  simp [leave, store, setAt, rdk, idxO, cmpO,  put, puts, keeps, keep, toVr, putAll, open_eq, Tg.to, rd, fz, callO, Ag.slots, Ag.avs, Ag.back, isA, hold, bltD, idxD, List.mapM_cons, List.mapM_nil, Option.bind, e]
def checkB (f e : Nat) : Sts := (.cons (.ite (.lnot (.call f (.val (.var 0) .nil))) (.cons (.raise e (.var 0)) .nil) .nil) .nil)
theorem check_run (f e : Nat) {d : PyData} (h : C f [.d d] = .ret (.d (.bool true)) [.d d]) : Fd.run U C ⟨1, 1, checkB f e⟩ [.d d] = .ret (.d .none) [.d d] := by
  simp only [run_def, checkB, Fd.enter]
  simp [leave, store, setAt, rdk, idxO, cmpO,  put, puts, keeps, keep, toVr, putAll, open_eq, Tg.to, rd, fz, callO, Ag.slots, Ag.avs, Ag.back, isA, hold, bltD, idxD, List.mapM_cons, List.mapM_nil, Option.bind, h]
end

/-! ### the well -/
def wellL : Sts := (.cons (.asg 4 (.bin .Mod (.blt .int (.cons (.bin .Add (.bin .Add (.bin .Mult (.var 4) (.lit (.int 1000003))) (.var 2)) (.lit (.int 5))) .nil)) (.bin .Add (.bin .Pow (.lit (.int 10)) (.lit (.int 25))) (.lit (.int 13))))) .nil)
def wellB : Sts := (.cons (.par [3, 4] (.cons (.ite (.cmp .Lt (.var 1) (.blt .len (.cons (.var 0) .nil))) (.blt .int (.cons (.idx (.var 0) (.var 1)) .nil)) (.bin .Mult (.blt .len (.cons (.var 0) .nil)) (.lit (.int 32452843)))) (.cons (.bin .Add (.bin .Mult (.var 1) (.lit (.int 15485863))) (.lit (.int 2038074743))) .nil))) (.cons (.forr (.nm 2) (.ev (.slc (.var 0) .nil (.cons (.lit (.int 300)) .nil))) wellL) (.cons (.ret (.lst (.cons (.blt .max2 (.cons (.lit (.int 0)) (.cons (.bin .Sub (.blt .abs (.cons (.var 3) .nil)) (.bin .Pow (.lit (.int 10)) (.lit (.int 18)))) .nil))) (.cons (.bin .Mod (.blt .int (.cons (.bin .Add (.var 4) (.bin .Mult (.var 3) (.lit (.int 86028121)))) .nil)) (.bin .Add (.bin .Pow (.lit (.int 10)) (.lit (.int 25))) (.lit (.int 13)))) (.cons (.lit (.int 0)) .nil))))) .nil)))
def drawWB : Sts := (.cons (.ite (.cmp .Gt (.idx (.var 0) (.lit (.int 0))) (.lit (.int 0))) (.cons (.asg 3 (.bin .Mod (.blt .int (.cons (.idx (.var 0) (.lit (.int 0))) .nil)) (.var 1))) (.cons (.setIx 0 (.lit (.int 0)) (.bin .FloorDiv (.idx (.var 0) (.lit (.int 0))) (.var 1))) (.cons (.ret (.var 3)) .nil))) .nil) (.cons (.setIx 0 (.lit (.int 2)) (.bin .Add (.idx (.var 0) (.lit (.int 2))) (.lit (.int 1)))) (.cons (.asg 2 (.bin .Mod (.blt .int (.cons (.bin .Pow (.bin .Add (.idx (.var 0) (.lit (.int 1))) (.bin .Mult (.lit (.int 67867979)) (.idx (.var 0) (.lit (.int 2))))) (.lit (.int 3))) .nil)) (.bin .Add (.bin .Pow (.lit (.int 10)) (.lit (.int 29))) (.lit (.int 319))))) (.cons (.asg 2 (.bin .Mod (.blt .int (.cons (.bin .Pow (.bin .Add (.var 2) (.lit (.int 49979687))) (.lit (.int 3))) .nil)) (.bin .Add (.bin .Pow (.lit (.int 10)) (.lit (.int 33))) (.lit (.int 33))))) (.cons (.ret (.bin .Mod (.blt .int (.cons (.bin .FloorDiv (.var 2) (.bin .Pow (.lit (.int 10)) (.lit (.int 6)))) .nil)) (.var 1))) .nil)))))
theorem p25 : binD .Pow (.int 10) (.int 25) = some (.d (.int 10000000000000000000000000)) := bin_pow (show powOk 10 25 = true by decide +kernel)
theorem p33 : binD .Pow (.int 10) (.int 33) = some (.d (.int 1000000000000000000000000000000000)) := bin_pow (show powOk 10 33 = true by decide +kernel)
theorem p6 : binD .Pow (.int 10) (.int 6) = some (.d (.int 1000000)) := bin_pow (show powOk 10 6 = true by decide +kernel)
/-- m draws at most so far -/
def Well (m : Nat) (w : List PyData) : Prop := ∃ a b c : Int, w = [.int a, .int b, .int c] ∧ 0 ≤ a ∧ 0 ≤ b ∧ b < 10 ^ 26 ∧ 0 ≤ c ∧ c ≤ m
theorem Well.mono {m m' : Nat} {w : List PyData} (h : Well m w) (k : m ≤ m') : Well m' w := by
  obtain ⟨a, b, c, e, h1, h2, h3, h4, h5⟩ := h
  exact ⟨a, b, c, e, h1, h2, h3, h4, by omega⟩
section
variable (U : Consts) (C : Calls)
theorem drawW_run {m : Nat} (hm : m ≤ 10 ^ 60) {w : List PyData} (h : Well m w) {k : Int} (h0 : 0 < k) (h1 : k < 10 ^ 60) :
    ∃ r w', Fd.run U C ⟨2, 4, drawWB⟩ [.o (.lst w), .d (.int k)] = .ret (.d (.int r)) [.o true false (.lst w'), .d (.int k)] ∧ 0 ≤ r ∧ r < k ∧ Well (m + 1) w' := by
  obtain ⟨a, b, c, rfl, ha, hb, hb2, hc, hc2⟩ := h
  have hc3 : c ≤ 10 ^ 60 := by
    omega
  by_cases h : 0 < a
  · refine ⟨a % k, [.int (a / k), .int b, .int c], ?_, Int.emod_nonneg _ (by omega), Int.emod_lt_of_pos _ h0, _, _, _, rfl, Int.ediv_nonneg ha (by omega), hb, hb2, hc, by omega⟩
    simp only [run_def, drawWB, Fd.enter]
    simp [leave, store, setAt, rdk, idxO, cmpO,  put, puts, keeps, keep, toVr, putAll, open_eq, Tg.to, rd, fz, callO, Ag.slots, Ag.avs, Ag.back, isA, hold, bltD, idxD, List.mapM_cons, List.mapM_nil, Option.bind, intD, h, bin_mod h0, bin_div h0 h1, L2.ixN]
  · have q1 : powOk (b + 67867979 * (c + 1)) 3 = true := pow_ok (k := 250) (by omega) (by omega) (by omega) (by decide)
    obtain ⟨M, hM⟩ : ∃ M : Int, M = (b + 67867979 * (c + 1)) ^ 3 % 100000000000000000000000000319 := ⟨_, rfl⟩
    have m0 : 0 ≤ M := hM ▸ Int.emod_nonneg _ (by decide)
    have m1 : M < 100000000000000000000000000319 := hM ▸ Int.emod_lt_of_pos _ (by decide)
    have q2 : powOk (M + 49979687) 3 = true := pow_ok (k := 100) (by omega) (by omega) (by omega) (by decide)
    obtain ⟨N, hN⟩ : ∃ N : Int, N = (M + 49979687) ^ 3 % 1000000000000000000000000000000033 := ⟨_, rfl⟩
    have e1 : binD .Pow (.int (b + 67867979 * (c + 1))) (.int 3) = some (.d (.int ((b + 67867979 * (c + 1)) ^ 3))) := bin_pow q1
    have e2 : binD .Pow (.int (M + 49979687)) (.int 3) = some (.d (.int ((M + 49979687) ^ 3))) := bin_pow q2
    refine ⟨N / 1000000 % k, [.int a, .int b, .int (c + 1)], ?_, Int.emod_nonneg _ (by omega), Int.emod_lt_of_pos _ h0, _, _, _, rfl, ha, hb, hb2, by omega, by omega⟩
    simp only [run_def, drawWB, Fd.enter]
    simp [leave, store, setAt, rdk, idxO, cmpO,  put, puts, keeps, keep, toVr, putAll, open_eq, Tg.to, rd, fz, callO, Ag.slots, Ag.avs, Ag.back, isA, hold, bltD, idxD, List.mapM_cons, List.mapM_nil, Option.bind, intD, h, h0, L2.ixN, bin_mul (mul_left (i := 67867979) (by decide) (by decide)), e1, e2, ← hM, ← hN, p29, p33, p6, bin_mod, bin_div]
theorem well_loop (S P : PyData) (cell mix : Int) (xs : List PyData) (hx : ∀ x ∈ xs, ∃ i, x = .int i) :
    ∃ y mix', forE U C (.nm 2) wellL xs [.d S, .d P, .no, .d (.int cell), .d (.int mix)] = .ok .nx [.d S, .d P, y, .d (.int cell), .d (.int mix')] := by
  have := forE_rel (U := U) (C := C) (tg := .nm 2) (b := wellL) (xs := xs) (ρ := [.d S, .d P, .no, .d (.int cell), .d (.int mix)])
    (I := fun _ ρ => ∃ y mix', ρ = [.d S, .d P, y, .d (.int cell), .d (.int mix')] ∧ freeB y = true) ⟨_, _, rfl, rfl⟩ (by
      rintro x r ρ hm ⟨y, mix', rfl, hy⟩
      obtain ⟨i, rfl⟩ := hx x hm
      refine ⟨[.d S, .d P, .d (.int i), .d (.int cell), .d (.int mix')], [.d S, .d P, .d (.int i), .d (.int cell), .d (.int ((mix' * 1000003 + i + 5) % 10000000000000000000000013))], by simp [leave, store, setAt, rdk, idxO, cmpO,  put, puts, keeps, keep, toVr, putAll, open_eq, Tg.to, rd, fz, callO, Ag.slots, Ag.avs, Ag.back, isA, hold, bltD, idxD, List.mapM_cons, List.mapM_nil, Option.bind, hy], .inl ?_, _, _, rfl, rfl⟩
      simp [leave, store, setAt, rdk, idxO, cmpO,  put, puts, keeps, keep, toVr, putAll, open_eq, Tg.to, rd, fz, callO, Ag.slots, Ag.avs, Ag.back, isA, hold, bltD, idxD, List.mapM_cons, List.mapM_nil, Option.bind, wellL, intD, bin_mul (mul_right (j := 1000003) (by decide) (by decide)), p25, bin_mod])
  obtain ⟨ρ', e, y, mix', rfl, _⟩ := this
  exact ⟨y, mix', e⟩
theorem well_run (ns : List Int) (hl : ns.length ≤ 63) (p : Int) (h0 : 0 ≤ p) :
    ∃ w, Fd.run U C ⟨2, 5, wellB⟩ [.d (.list (ns.map .int)), .d (.int p)] = .ret (.o (.lst w)) [.d (.list (ns.map .int)), .d (.int p)] ∧ Well 0 w := by
  have hz : ns.length ≤ sizeLine := by unfold sizeLine; omega
  obtain ⟨L, hL⟩ : ∃ L : Int, L = ns.length := ⟨_, rfl⟩
  have hn : lenD [.list (ns.map .int)] = some (.d (.int L)) := by simp [lenD, hz, hL]
  have fin : ∀ cell mix' : Int, Well 0 [.int (posI (absI cell - 1000000000000000000)), .int ((mix' + cell * 86028121) % 10000000000000000000000013), .int 0] := fun cell mix' =>
    ⟨_, _, _, rfl, posI_nn _, Int.emod_nonneg _ (by decide), Int.lt_trans (Int.emod_lt_of_pos _ (by decide)) (by decide), by omega, by omega⟩
  have loop := fun cell mix0 => well_loop U C (.list (ns.map .int)) (.int p) cell mix0 (part (ns.map .int) none (some 300)) (fun x hx => by
      obtain ⟨i, _, rfl⟩ := List.mem_map.mp (part_mem hx); exact ⟨i, rfl⟩)
  by_cases h : p < L
  · obtain ⟨x, a1, hx⟩ := at_int (xs := ns.map PyData.int) h0 (by simpa [← hL] using h)
    obtain ⟨v, _, rfl⟩ := List.mem_map.mp hx
    obtain ⟨y, mix', e⟩ := loop v (p * 15485863 + 2038074743)
    refine ⟨_, ?_, fin v mix'⟩
    simp only [run_def, wellB, Fd.enter]
    simp [leave, store, setAt, rdk, idxO, cmpO,  put, puts, keeps, keep, toVr, putAll, open_eq, Tg.to, rd, fz, callO, Ag.slots, Ag.avs, Ag.back, isA, hold, bltD, idxD, List.mapM_cons, List.mapM_nil, Option.bind, intD, hn, abs_int, max_zero, h, a1, bin_mul (mul_right (j := 15485863) (by decide) (by decide)), slcD, small, items, e, bin_mul (mul_right (j := 86028121) (by decide) (by decide)), p25, p18, bin_mod]
  · obtain ⟨y, mix', e⟩ := loop (L * 32452843) (p * 15485863 + 2038074743)
    refine ⟨_, ?_, fin (L * 32452843) mix'⟩
    simp only [run_def, wellB, Fd.enter]
    simp [leave, store, setAt, rdk, idxO, cmpO,  put, puts, keeps, keep, toVr, putAll, open_eq, Tg.to, rd, fz, callO, Ag.slots, Ag.avs, Ag.back, isA, hold, bltD, idxD, List.mapM_cons, List.mapM_nil, Option.bind, intD, hn, abs_int, max_zero, h, bin_mul (mul_right (j := 15485863) (by decide) (by decide)), bin_mul (mul_right (j := 32452843) (by decide) (by decide)), slcD, small, items, e, bin_mul (mul_right (j := 86028121) (by decide) (by decide)), p25, p18, bin_mod]
end
end Lib

set_option linter.all false
set_option maxRecDepth 100000
/-! Data of some size: what is shown of it; comprehensions over what was coded. -/
namespace Lib
open PySem Ev
mutual
def sz : PyData → Nat
  | .list xs => szs xs + 1
  | .tuple xs => szs xs + 1
  | .none => 1
  | .bool _ => 1
  | .int _ => 1
  | .str s => s.length + 1
  | .dict _ => 1
def szs : List PyData → Nat
  | [] => 0
  | d :: r => sz d + szs r
end
theorem szs_app : ∀ l r : List PyData, szs (l ++ r) = szs l + szs r
  | [], r => by simp [szs]
  | d :: l, r => by simp only [List.cons_append, szs, szs_app l r]; omega
theorem sz_pos (d : PyData) : 0 < sz d := by cases d <;> simp [sz]
theorem szs_len : ∀ l : List PyData, l.length ≤ szs l
  | [] => by simp [szs]
  | d :: r => by
    have := sz_pos d
    have := szs_len r
    simp only [szs, List.length_cons]; omega
theorem sz_mem {x : PyData} : ∀ {l : List PyData}, x ∈ l → sz x ≤ szs l
  | y :: l, h => by
    simp only [szs]
    rcases List.mem_cons.mp h with rfl | h
    · omega
    · have := sz_mem h; omega
theorem depth_mem {x : PyData} : ∀ {l : List PyData}, x ∈ l → x.depth ≤ PyData.depthAll l
  | y :: l, h => by
    simp only [PyData.depthAll]
    rcases List.mem_cons.mp h with rfl | h
    · omega
    · have := depth_mem h; omega
mutual
theorem bulk_sz : ∀ d : PyData, fine d = true → d.bulk + 1 ≤ sz d
  | .none, _ => by simp [PyData.bulk, sz]
  | .bool _, _ => by simp [PyData.bulk, sz]
  | .int _, _ => by simp [PyData.bulk, sz]
  | .str s, _ => by
    simp only [PyData.bulk, sz]
    show s.cps.size + 1 ≤ s.length + 1
    exact Nat.le_refl _
  | .list xs, h => by
    have := bulks_sz xs (by simpa [fine] using h)
    simp only [PyData.bulk, sz]; omega
  | .tuple xs, h => by
    have := bulks_sz xs (by simpa [fine] using h)
    simp only [PyData.bulk, sz]; omega
  | .dict _, h => by simp [fine] at h
theorem bulks_sz : ∀ l : List PyData, fines l = true → PyData.bulkAll l ≤ szs l
  | [], _ => by simp [PyData.bulkAll, szs]
  | x :: l, h => by
    simp only [fines, Bool.and_eq_true] at h
    have h1 := bulk_sz x h.1
    have h2 := bulks_sz l h.2
    simp only [PyData.bulkAll, szs]; omega
end
theorem repr_big {d : PyData} (h : fine d = true) (h1 : sz d ≤ 100000) (h2 : d.depth ≤ 64) : reprD [d] = some (.d (.str d.shown)) := by
  obtain ⟨a1, a2, a3, a4, a5⟩ := fine_ok d h
  have := PyData.shown_le_bulk 120 (by decide) d a4
  have := bulk_sz d h
  have hz : d.shown.length ≤ sizeLine := by unfold sizeLine; omega
  simp [reprD, a2, a3, h2, hz]
/-- data that may be handed about -/
structure Dt (d : PyData) : Prop where
  fine : fine d = true
  dep : d.depth ≤ 60
  sz : sz d ≤ 100000
theorem Dt.shaped {d : PyData} (h : Dt d) : SeqAt.shaped d = true := shaped_fine h.fine (by have := h.dep; omega)
theorem Dt.repr {d : PyData} (h : Dt d) : reprD [d] = some (.d (.str d.shown)) := repr_big h.fine h.sz (by have := h.dep; omega)
theorem Dt.eq {a b : PyData} (h : Dt a) (h' : Dt b) : cmpD .Eq a b = some (PyData.eqv a b) := cmp_eq_any h.shaped h'.shaped
theorem Dt.ne {a b : PyData} (h : Dt a) (h' : Dt b) : cmpD .NotEq a b = some (!PyData.eqv a b) := cmp_ne_any h.shaped h'.shaped
theorem Dt.item {xs : List PyData} {x : PyData} (h : Dt (.tuple xs)) (m : x ∈ xs) : Dt x := by
  obtain ⟨h1, h2, h3⟩ := h
  simp only [Lib.fine] at h1
  simp only [PyData.depth] at h2
  simp only [Lib.sz] at h3
  have := depth_mem m
  have := sz_mem m
  exact ⟨fine_mem h1 m, by omega, by omega⟩
theorem Dt.itemL {xs : List PyData} {x : PyData} (h : Dt (.list xs)) (m : x ∈ xs) : Dt x := by
  obtain ⟨h1, h2, h3⟩ := h
  simp only [Lib.fine] at h1
  simp only [PyData.depth] at h2
  simp only [Lib.sz] at h3
  have := depth_mem m
  have := sz_mem m
  exact ⟨fine_mem h1 m, by omega, by omega⟩
theorem Dt.len {xs : List PyData} (h : Dt (.tuple xs)) : xs.length ≤ sizeLine := by
  have h3 := h.sz
  simp only [Lib.sz] at h3
  have := szs_len xs
  unfold sizeLine; omega
theorem Dt.lenL {xs : List PyData} (h : Dt (.list xs)) : xs.length ≤ sizeLine := by
  have h3 := h.sz
  simp only [Lib.sz] at h3
  have := szs_len xs
  unfold sizeLine; omega
theorem Dt.int {i : Int} (h0 : -(10 ^ 35) < i) (h1 : i < 10 ^ 35) : Dt (.int i) := ⟨by simp only [Lib.fine, Bool.and_eq_true, decide_eq_true_eq]; exact ⟨h0, h1⟩, by simp [PyData.depth], by simp [Lib.sz]⟩
theorem Dt.bool (b : Bool) : Dt (.bool b) := ⟨rfl, by simp [PyData.depth], by simp [Lib.sz]⟩
theorem Dt.none : Dt .none := ⟨rfl, by simp [PyData.depth], by simp [Lib.sz]⟩
theorem Dt.nil : Dt (.tuple []) := ⟨rfl, by simp [PyData.depth, PyData.depthAll], by simp [Lib.sz, szs]⟩
theorem Dt.eqv {d : PyData} (h : Dt d) : PyData.eqv d d = true := eqv_fine d h.fine
section
variable {U : Consts} {C : Calls} {own : List Nat} {tg : Tg} {cs : Exs} {e : Ex} {ρ : Rho}
/-- a comprehension over coded items -/
theorem lcE_fg {α : Type} {f g : α → PyData} : ∀ {ts : List α} {acc : List PyData}, acc.length + ts.length ≤ sizeLine →
    (∀ t ∈ ts, ∃ ρ1 ρ2 v, tg.to (f t) ρ = some ρ1 ∧ evConds U C cs ρ1 = .ok true ρ1 ∧ evE U C e ρ1 = .ok v ρ2 ∧ (∃ ρ3, fz ρ2 v = .ok (g t) ρ3 ∧ wipeR ρ3 own = ρ)) → lcE U C own tg cs e (ts.map f) acc ρ = .ok (acc ++ ts.map g) ρ
  | [], acc, _, _ => by simp [lcE, lcL]
  | t :: ts, acc, hl, h => by
    obtain ⟨ρ1, ρ2, v, h1, h2, h3, ρ3, h4, h5⟩ := h t (List.mem_cons_self ..)
    simp only [List.length_cons] at hl
    have ih := lcE_fg (acc := acc ++ [g t]) (by simp; omega) fun y hy => h y (List.mem_cons_of_mem _ hy)
    rw [List.map_cons, lcE_cons, h1]
    simp only [h2, Out.bind_ok, if_true, h3, h4, h5]
    rw [if_pos (by omega), ih]
    simp
end
theorem dep_mem {t : Tm} : ∀ {ts : List Tm}, t ∈ ts → dep t ≤ deps ts
  | s :: ts, h => by
    simp only [deps]
    rcases List.mem_cons.mp h with rfl | h
    · omega
    · have := dep_mem h; omega
theorem cnt_mem {t : Tm} : ∀ {ts : List Tm}, t ∈ ts → cnt t ≤ cnts ts
  | s :: ts, h => by
    simp only [cnts]
    rcases List.mem_cons.mp h with rfl | h
    · omega
    · have := cnt_mem h; omega
theorem ok_mem {t : Tm} : ∀ {ts : List Tm}, oksT ts = true → t ∈ ts → okT t = true
  | s :: ts, h, m => by
    simp only [oksT, Bool.and_eq_true] at h
    rcases List.mem_cons.mp m with rfl | m
    · exact h.1
    · exact ok_mem h.2 m
theorem slc_one {x : PyData} {r : List PyData} : slcD (.tuple (x :: r)) (some 1) none = some (.d (.tuple r)) := by
  simp only [slcD, small, part_one]; rfl
end Lib

set_option linter.all false
set_option maxRecDepth 100000
/-! _law_same, sign by sign. -/
namespace Lib
open PySem Ev
theorem at_getD {xs : List PyData} {i : Nat} (h : i < xs.length) : L2.atI xs (i : Int) = some (xs.getD i .none) := by
  rw [at_nat h]; simp [h]
theorem getD_mem {xs : List PyData} {i : Nat} (h : i < xs.length) : xs.getD i .none ∈ xs := by
  rw [List.getD_eq_getElem?_getD, List.getElem?_eq_getElem h]; exact List.getElem_mem h
theorem depth_in {xs : List PyData} {x : PyData} (m : x ∈ xs) : x.depth < (PyData.tuple xs).depth := by
  have := depth_mem m
  simp only [PyData.depth]; omega
theorem depth_inL {xs : List PyData} {x : PyData} (m : x ∈ xs) : x.depth < (PyData.list xs).depth := by
  have := depth_mem m
  simp only [PyData.depth]; omega
def sameSE (f : Nat) : Ex := .call f (.val (.idx (.var 0) (.var 2)) (.val (.idx (.var 1) (.var 2)) .nil))
def sameSB (f : Nat) : Sts := (.cons (.ite (.isN false (.var 1)) (.cons (.ret (.isN false (.var 0))) .nil) .nil) (.cons (.ite (.isi .bool (.var 1)) (.cons (.ret (.ite (.var 1) (.cmp .Is (.var 0) (.lit (.bool true))) (.cmp .Is (.var 0) (.lit (.bool false))))) .nil) .nil) (.cons (.ite (.isi .int (.var 1)) (.cons (.ret (.band (.isi .int (.var 0)) (.cons (.lnot (.isi .bool (.var 0))) (.cons (.cmp .Eq (.var 0) (.var 1)) .nil)))) .nil) .nil) (.cons (.ite (.isi .str (.var 1)) (.cons (.ret (.band (.isi .str (.var 0)) (.cons (.cmp .Eq (.var 0) (.var 1)) .nil))) .nil) .nil) (.cons (.ite (.bor (.cmp .NotEq (.isi .tuple (.var 1)) (.isi .tuple (.var 0))) (.cons (.cmp .NotEq (.isi .list (.var 1)) (.isi .list (.var 0))) .nil)) (.cons (.ret (.lit (.bool false))) .nil) .nil) (.cons (.ret (.band (.cmp .Eq (.blt .len (.cons (.var 0) .nil)) (.blt .len (.cons (.var 1) .nil))) (.cons (.blt .all (.cons (.lc [2] (.nm 2) (.rng1 (.blt .len (.cons (.var 1) .nil))) .nil (sameSE f)) .nil)) .nil))) .nil))))))
section
variable (U : Consts) (C : Calls)
theorem same_loop (f : Nat) (xs : List PyData) (D : PyData) (hD : D = .tuple xs ∨ D = .list xs) (hl : xs.length ≤ sizeLine) (h : ∀ x ∈ xs, C f [.d x, .d x] = .ret (.d (.bool true)) [.d x, .d x]) :
    lcE U C [2] (.nm 2) .nil (sameSE f) (up 0 xs.length) [] [.d D, .d D, .no] = .ok ((List.range xs.length).map fun _ => .bool true) [.d D, .d D, .no] := by
  have := lcE_fg (U := U) (C := C) (own := [2]) (tg := .nm 2) (cs := .nil) (e := sameSE f) (ρ := [.d D, .d D, .no]) (f := fun i : Nat => .int (0 + i)) (g := fun _ => .bool true) (ts := List.range xs.length) (acc := []) (by simpa using hl) (fun i m =>
    ⟨[.d D, .d D, .d (.int (0 + i))], [.d D, .d D, .d (.int (0 + i))], .d (.bool true), by simp [leave, store, setAt, rdk, idxO, cmpO,  put, puts, keeps, keep, toVr, putAll, open_eq, Tg.to, rd, fz, callO, Ag.slots, Ag.avs, Ag.back, isA, hold, bltD, idxD, List.mapM_cons, List.mapM_nil, Option.bind], by simp, by
      have hi : i < xs.length := by simpa using m
      have q := h _ (getD_mem hi)
      have a2 := at_getD hi
      generalize xs.getD i .none = xi at *
      rcases hD with rfl | rfl <;> simp [leave, store, setAt, rdk, idxO, cmpO,  put, puts, keeps, keep, toVr, putAll, open_eq, Tg.to, rd, fz, callO, Ag.slots, Ag.avs, Ag.back, isA, hold, bltD, idxD, List.mapM_cons, List.mapM_nil, Option.bind, sameSE, a2, q], [.d D, .d D, .d (.int (0 + i))], by simp [leave, store, setAt, rdk, idxO, cmpO,  put, puts, keeps, keep, toVr, putAll, open_eq, Tg.to, rd, fz, callO, Ag.slots, Ag.avs, Ag.back, isA, hold, bltD, idxD, List.mapM_cons, List.mapM_nil, Option.bind], by simp⟩)
  exact this
theorem same_struct (f : Nat) (d : PyData) (hd : Dt d) (h : ∀ xs, d = .tuple xs ∨ d = .list xs → ∀ x ∈ xs, C f [.d x, .d x] = .ret (.d (.bool true)) [.d x, .d x]) : Fd.run U C ⟨2, 3, sameSB f⟩ [.d d, .d d] = .ret (.d (.bool true)) [.d d, .d d] := by
  simp only [run_def, sameSB, Fd.enter]
  have seq : ∀ xs, d = .tuple xs ∨ d = .list xs → xs.length ≤ sizeLine := by
    rintro xs (rfl | rfl)
    · exact hd.len
    · exact hd.lenL
  have bs : ∀ k : Nat, boolsOf ((List.range k).map fun _ => .bool true) = some ((List.range k).map fun _ => true) := fun k => bools_map (f := fun _ => true) _
  have al : ∀ k : Nat, allD [.list ((List.range k).map fun _ => .bool true)] = some (.d (.bool true)) := fun k => by
    simp only [allD, bs, Option.map_some, List.all_map]; simp
  cases d with
  | none => simp [leave, store, setAt, rdk, idxO, cmpO,  put, puts, keeps, keep, toVr, putAll, open_eq, Tg.to, rd, fz, callO, Ag.slots, Ag.avs, Ag.back, isA, hold, bltD, idxD, List.mapM_cons, List.mapM_nil, Option.bind, isNon]
  | bool b => cases b <;> simp [leave, store, setAt, rdk, idxO, cmpO,  put, puts, keeps, keep, toVr, putAll, open_eq, Tg.to, rd, fz, callO, Ag.slots, Ag.avs, Ag.back, isA, hold, bltD, idxD, List.mapM_cons, List.mapM_nil, Option.bind, isNon, isA]
  | int i => simp [leave, store, setAt, rdk, idxO, cmpO,  put, puts, keeps, keep, toVr, putAll, open_eq, Tg.to, rd, fz, callO, Ag.slots, Ag.avs, Ag.back, isA, hold, bltD, idxD, List.mapM_cons, List.mapM_nil, Option.bind, isNon, isA]
  | str s => simp [leave, store, setAt, rdk, idxO, cmpO,  put, puts, keeps, keep, toVr, putAll, open_eq, Tg.to, rd, fz, callO, Ag.slots, Ag.avs, Ag.back, isA, hold, bltD, idxD, List.mapM_cons, List.mapM_nil, Option.bind, isNon, isA]
  | dict kvs => have := hd.fine; simp [fine] at this
  | list xs =>
    have hl := seq xs (.inr rfl)
    obtain ⟨L, hL⟩ : ∃ L : Int, L = xs.length := ⟨_, rfl⟩
    have hn : lenD [.list xs] = some (.d (.int L)) := by simp [lenD, hl, hL]
    have lu : L.toNat = xs.length := by omega
    have sm : small L = true := by unfold sizeLine at hl; simp [small]; omega
    have lc := same_loop U C f xs (.list xs) (.inr rfl) hl (h xs (.inr rfl))
    have a := al xs.length
    generalize (List.range xs.length).map (fun _ => PyData.bool true) = bs at lc a
    rw [← lu] at lc
    simp [leave, store, setAt, rdk, idxO, cmpO,  put, puts, keeps, keep, toVr, putAll, open_eq, Tg.to, rd, fz, callO, Ag.slots, Ag.avs, Ag.back, isA, hold, bltD, idxD, List.mapM_cons, List.mapM_nil, Option.bind, isNon, isA, hn, sm, lc, a, free]
  | tuple xs =>
    have hl := seq xs (.inl rfl)
    obtain ⟨L, hL⟩ : ∃ L : Int, L = xs.length := ⟨_, rfl⟩
    have hn : lenD [.tuple xs] = some (.d (.int L)) := by simp [lenD, hl, hL]
    have lu : L.toNat = xs.length := by omega
    have sm : small L = true := by unfold sizeLine at hl; simp [small]; omega
    have lc := same_loop U C f xs (.tuple xs) (.inl rfl) hl (h xs (.inl rfl))
    have a := al xs.length
    generalize (List.range xs.length).map (fun _ => PyData.bool true) = bs at lc a
    rw [← lu] at lc
    simp [leave, store, setAt, rdk, idxO, cmpO,  put, puts, keeps, keep, toVr, putAll, open_eq, Tg.to, rd, fz, callO, Ag.slots, Ag.avs, Ag.back, isA, hold, bltD, idxD, List.mapM_cons, List.mapM_nil, Option.bind, isNon, isA, hn, sm, lc, a, free]
end
inductive All2 {α β : Type} (R : α → β → Prop) : List α → List β → Prop
  | nil : All2 R [] []
  | cons {a : α} {b : β} {as : List α} {bs : List β} (h : R a b) (t : All2 R as bs) : All2 R (a :: as) (b :: bs)
theorem All2.len {α β : Type} {R : α → β → Prop} {as : List α} {bs : List β} (h : All2 R as bs) : as.length = bs.length := by
  induction h with
  | nil => rfl
  | cons _ _ ih => simp [ih]
theorem All2.at {α β : Type} {R : α → β → Prop} {as : List α} {bs : List β} (a0 : α) (b0 : β) (h : All2 R as bs) : ∀ i, i < as.length → R (as.getD i a0) (bs.getD i b0) := by
  induction h with
  | nil => intro i hi; simp at hi
  | cons h _ ih =>
    intro i hi
    cases i with
    | zero => simpa using h
    | succ i => simpa using ih i (by simpa using hi)
section
variable {U : Consts} {C : Calls} {own : List Nat} {tg : Tg} {cs : Exs} {e : Ex}
/-- a comprehension over coded items that changes what it goes by -/
theorem lcE_seq {α : Type} {f : α → PyData} {R : α → PyData → Prop} {I : Nat → Rho → Prop} : ∀ {ts : List α} {acc : List PyData} {k : Nat} {ρ : Rho}, acc.length + ts.length ≤ sizeLine → I k ρ →
    (∀ t ∈ ts, ∀ j ρ, j < k + ts.length → I j ρ → ∃ ρ1 ρ2 ρ3 v y, tg.to (f t) ρ = some ρ1 ∧ evConds U C cs ρ1 = .ok true ρ1 ∧ evE U C e ρ1 = .ok v ρ2 ∧ fz ρ2 v = .ok y ρ3 ∧ R t y ∧ I (j + 1) (wipeR ρ3 own)) →
    ∃ ys ρ', lcE U C own tg cs e (ts.map f) acc ρ = .ok (acc ++ ys) ρ' ∧ I (k + ts.length) ρ' ∧ All2 R ts ys
  | [], acc, k, ρ, _, hi, _ => ⟨[], ρ, by simp [lcE_nil], hi, .nil⟩
  | t :: ts, acc, k, ρ, hl, hi, h => by
    obtain ⟨ρ1, ρ2, ρ3, v, y, h1, h2, h3, h4, h5, h6⟩ := h t (List.mem_cons_self ..) k ρ (by simp only [List.length_cons]; omega) hi
    simp only [List.length_cons] at hl
    obtain ⟨ys, ρ', e1, e2, e3⟩ := lcE_seq (acc := acc ++ [y]) (by simp; omega) h6 fun z hz j ρ hj => h z (List.mem_cons_of_mem _ hz) j ρ (by simp only [List.length_cons]; omega)
    refine ⟨y :: ys, ρ', ?_, by rw [List.length_cons, show k + (ts.length + 1) = k + 1 + ts.length by omega]; exact e2, .cons h5 e3⟩
    rw [List.map_cons, lcE_cons, h1]
    simp only [h2, Out.bind_ok, if_true, h3, h4]
    rw [if_pos (by omega), e1]
    simp
end
end Lib

set_option linter.all false
set_option maxRecDepth 100000
/-! Pairs of rows of ints: sorted, as keys. -/
namespace Lib
open PySem Ev
def rowI (d : PyData) : Prop := ∃ r : List Int, d = .tuple (r.map .int)
def prI (d : PyData) : Prop := ∃ a b : List Int, d = .tuple [.tuple (a.map .int), .tuple (b.map .int)]
theorem prI.mk {x y : PyData} (h : rowI x) (h' : rowI y) : prI (.tuple [x, y]) := by
  obtain ⟨a, rfl⟩ := h
  obtain ⟨b, rfl⟩ := h'
  exact ⟨a, b, rfl⟩
theorem eqvs_ints : ∀ {a b : List Int}, PyData.eqvAll (a.map .int) (b.map .int) = true → a = b
  | [], [], _ => rfl
  | [], _ :: _, h => by simp [PyData.eqvAll] at h
  | _ :: _, [], h => by simp [PyData.eqvAll] at h
  | x :: a, y :: b, h => by
    simp only [List.map_cons, PyData.eqvAll, Bool.and_eq_true, eqv_int, beq_iff_eq] at h
    rw [h.1, eqvs_ints h.2]
theorem eqvs_refl : ∀ a : List Int, PyData.eqvAll (a.map .int) (a.map .int) = true
  | [] => by simp [PyData.eqvAll]
  | x :: a => by simp [PyData.eqvAll, eqvs_refl a]
theorem eqv_pr {d e : PyData} (h : prI d) (h' : prI e) : PyData.eqv d e = true ↔ d = e := by
  obtain ⟨a, b, rfl⟩ := h
  obtain ⟨a', b', rfl⟩ := h'
  constructor
  · intro q
    simp only [PyData.eqv, PyData.eqvAll, Bool.and_eq_true, Bool.and_true] at q
    rw [eqvs_ints q.1, eqvs_ints q.2]
  · intro q
    rw [q]
    simp [PyData.eqv, PyData.eqvAll, eqvs_refl]
theorem alike_pr {d e : PyData} (h : prI d) (h' : prI e) : PySem.W.alike d e = true := by
  obtain ⟨a, b, rfl⟩ := h
  obtain ⟨a', b', rfl⟩ := h'
  simp [PySem.W.alike, PySem.W.alikeAll, PySem.W.alike_ints]
theorem depth_pr {d : PyData} (h : prI d) : d.depth ≤ 2 := by
  obtain ⟨a, b, rfl⟩ := h
  simp [PyData.depth, PyData.depthAll, PySem.W.depth_ints]
theorem toks_inj {d e : PyData} (h : prI d) (h' : prI e) (q : PySem.W.keyToks d = PySem.W.keyToks e) : d = e := by
  by_cases c : PyData.eqv d e = true
  · exact (eqv_pr h h').mp c
  · have := (PySem.W.toks_eqv d e (alike_pr h h')).2 (by simpa using c) [] [.inl 0]
    rw [q, PySem.W.lex_pre, PyProof.Rows.lex_irrefl] at this
    cases this
def dle (a b : PyData) : Bool := PySem.W.dataLe false id a b
theorem dle_eq (a b : PyData) : dle a b = !PyProof.Rows.lexLt PyProof.Rows.itemOrd (PySem.W.keyToks b) (PySem.W.keyToks a) := rfl
theorem dle_trans (a b c : PyData) (h1 : dle a b = true) (h2 : dle b c = true) : dle a c = true := by
  rw [dle_eq] at *
  cases q : PyProof.Rows.lexLt PyProof.Rows.itemOrd (PySem.W.keyToks c) (PySem.W.keyToks a) with
  | false => rfl
  | true =>
    rcases PyProof.Rows.lex_negTrans _ (PySem.W.keyToks b) _ q with z | z
    · rw [z] at h2; cases h2
    · rw [z] at h1; cases h1
theorem dle_total (a b : PyData) : (dle a b || dle b a) = true := by
  rw [dle_eq, dle_eq]
  cases q : PyProof.Rows.lexLt PyProof.Rows.itemOrd (PySem.W.keyToks b) (PySem.W.keyToks a) with
  | false => rfl
  | true =>
    cases q' : PyProof.Rows.lexLt PyProof.Rows.itemOrd (PySem.W.keyToks a) (PySem.W.keyToks b) with
    | false => rfl
    | true =>
      have := PyProof.Rows.lex_trans _ _ _ q q'
      rw [PyProof.Rows.lex_irrefl] at this
      cases this
theorem dle_anti {a b : PyData} (ha : prI a) (hb : prI b) (h1 : dle a b = true) (h2 : dle b a = true) : a = b := by
  rw [dle_eq] at h1 h2
  exact toks_inj ha hb (PyProof.Rows.lex_total _ _ (by simpa using h2) (by simpa using h1))
structure Srt (L : List PyData) (S : PyData → Prop) : Prop where
  ord : L.Pairwise (fun a b => dle a b = true)
  nd : L.Nodup
  mem : ∀ d, d ∈ L ↔ S d
  pr : ∀ d ∈ L, prI d
theorem Srt.uniq {L L' : List PyData} {S S' : PyData → Prop} (h : Srt L S) (h' : Srt L' S') (e : ∀ d, S d ↔ S' d) : L = L' :=
  List.Perm.eq_of_pairwise (fun a b ha hb q q' => dle_anti (h.pr a ha) (h'.pr b hb) q q') h.ord h'.ord ((List.perm_ext_iff_of_nodup h.nd h'.nd).mpr fun d => by rw [h.mem, h'.mem, e])
theorem srt_of {xs : List PyData} {S : PyData → Prop} (nd : xs.Nodup) (pr : ∀ d ∈ xs, prI d) (mem : ∀ d, d ∈ xs ↔ S d) (hl : xs.length ≤ 2000) : ∃ L, sortedD [.list xs] = some (.o (.lst L)) ∧ Srt L S ∧ L.length = xs.length := by
  have hz : xs.length ≤ sizeLine := by unfold sizeLine; omega
  have c : canSort xs = true := by
    simp only [canSort, Bool.and_eq_true, Bool.or_eq_true, decide_eq_true_eq, List.all_eq_true]
    refine ⟨⟨⟨fun d hd e he => alike_pr (pr d hd) (pr e he), hz⟩, fun d hd => ?_⟩, .inl fun d hd => ?_⟩
    · have := depth_pr (pr d hd); omega
    · obtain ⟨a, b, rfl⟩ := pr d hd; rfl
  refine ⟨xs.mergeSort (PySem.W.dataLe false id), by simp only [sortedD, c, if_true], ⟨?_, ?_, ?_, ?_⟩, by simp⟩
  · exact List.pairwise_mergeSort dle_trans dle_total xs
  · exact (List.mergeSort_perm xs _).nodup_iff.mpr nd
  · intro d; rw [List.mem_mergeSort, mem]
  · intro d hd; exact pr d (List.mem_mergeSort.mp hd)

/-! keys -/
theorem plain_ints : ∀ a : List Int, plainKeys (a.map .int) = true
  | [] => by simp [plainKeys]
  | x :: a => by simp [plainKeys, plainKey, plain_ints a]
theorem tupB_pr {d : PyData} (h : prI d) : tupB d = true := by
  have hd := depth_pr h
  obtain ⟨a, b, rfl⟩ := h
  simp only [tupB, plainKeys, plainKey, plain_ints, Bool.and_true, Bool.true_and, decide_eq_true_eq]
  omega
structure Kys (kvs : List (PyData × PyData)) (S : List PyData) : Prop where
  nd : (kvs.map (·.1)).Nodup
  mem : ∀ d, d ∈ kvs.map (·.1) ↔ d ∈ S
  pr : ∀ d ∈ S, prI d
theorem Kys.nil : Kys [] [] := ⟨by simp, by simp, by simp⟩
theorem Kys.fits {kvs : List (PyData × PyData)} {S : List PyData} (h : Kys kvs S) {k : PyData} (hk : prI k) : keyFits kvs k = true := by
  simp only [keyFits, Bool.or_eq_true, Bool.and_eq_true, List.all_eq_true]
  exact .inr ⟨tupB_pr hk, fun p hp => tupB_pr (h.pr _ ((h.mem _).mp (List.mem_map.mpr ⟨p, hp, rfl⟩)))⟩
theorem put_keys {kvs : List (PyData × PyData)} {k v : PyData} : (dPut kvs k v).map (·.1) = if dHas kvs k then kvs.map (·.1) else kvs.map (·.1) ++ [k] := by
  unfold dPut
  split
  · rw [List.map_map]
    refine List.map_congr_left fun p _ => ?_
    simp only [Function.comp]
    split <;> rfl
  · simp
theorem Kys.has {kvs : List (PyData × PyData)} {S : List PyData} (h : Kys kvs S) {k : PyData} (hk : prI k) : dHas kvs k = true ↔ k ∈ S := by
  rw [← h.mem]
  simp only [dHas, List.any_eq_true, List.mem_map]
  constructor
  · rintro ⟨p, hp, e⟩
    exact ⟨p, hp, (eqv_pr (h.pr _ ((h.mem _).mp (List.mem_map.mpr ⟨p, hp, rfl⟩))) hk).mp e⟩
  · rintro ⟨p, hp, rfl⟩
    exact ⟨p, hp, (eqv_pr hk hk).mpr rfl⟩
theorem Kys.put {kvs : List (PyData × PyData)} {S : List PyData} (h : Kys kvs S) {k : PyData} (v : PyData) (hk : prI k) : Kys (dPut kvs k v) (S ++ [k]) := by
  have e := put_keys (kvs := kvs) (k := k) (v := v)
  have hh := h.has hk
  refine ⟨?_, fun d => ?_, fun d hd => ?_⟩
  · rw [e]
    split
    · exact h.nd
    · rename_i c
      refine List.nodup_append.mpr ⟨h.nd, by simp, fun a ha b hb => ?_⟩
      simp at hb; subst hb
      rintro rfl
      exact c (hh.mpr ((h.mem _).mp ha))
  · rw [e]
    split
    · rename_i c
      rw [h.mem, List.mem_append, List.mem_singleton]
      exact ⟨.inl, fun z => z.elim id fun z => z ▸ hh.mp c⟩
    · rw [List.mem_append, List.mem_append, h.mem]
  · rcases List.mem_append.mp hd with hd | hd
    · exact h.pr d hd
    · simp at hd; subst hd; exact hk
theorem put_len {kvs : List (PyData × PyData)} {k v : PyData} : (dPut kvs k v).length ≤ kvs.length + 1 := by
  unfold dPut; split <;> simp
section
variable {U : Consts} {C : Calls} {ρ : Rho} {own : List Nat} {tg : Tg} {cs : Exs} {e k : Ex}
theorem dcE_keys {T : Nat} (hT : T ≤ sizeLine) : ∀ {xs : List PyData} {acc : List (PyData × PyData)} {S : List PyData}, acc.length + xs.length ≤ T → Kys acc S → (∀ x ∈ xs, prI x) →
    (∀ x ∈ xs, ∃ ρ1 y, tg.to x ρ = some ρ1 ∧ evConds U C cs ρ1 = .ok true ρ1 ∧ ((evE U C k ρ1).bind fun v ρ' => fz ρ' v) = .ok x ρ1 ∧ ((evE U C e ρ1).bind fun v ρ' => fz ρ' v) = .ok y ρ1 ∧ wipeR ρ1 own = ρ) →
    ∃ kvs, dcE U C own tg cs k e xs acc ρ = .ok kvs ρ ∧ Kys kvs (S ++ xs) ∧ kvs.length ≤ acc.length + xs.length
  | [], acc, S, _, h, _, _ => ⟨acc, rfl, by simpa using h, by simp⟩
  | x :: xs, acc, S, hl, h, hx, st => by
    obtain ⟨ρ1, y, h1, h2, h3, h4, h5⟩ := st x (List.mem_cons_self ..)
    have px := hx x (List.mem_cons_self ..)
    simp only [List.length_cons] at hl
    have z := put_len (kvs := acc) (k := x) (v := y)
    obtain ⟨kvs, e1, e2, e3⟩ := dcE_keys hT (xs := xs) (acc := dPut acc x y) (by omega) (h.put y px) (fun z hz => hx z (List.mem_cons_of_mem _ hz)) fun z hz => st z (List.mem_cons_of_mem _ hz)
    refine ⟨kvs, ?_, by simpa using e2, by simp only [List.length_cons]; omega⟩
    rw [dcE_cons, h1]
    simp only [h2, h3, h4, Out.bind_ok, if_true]
    rw [if_pos ⟨h.fits px, by omega⟩, h5, e1]
theorem lcE_filter {p : PyData → Bool} : ∀ {xs acc : List PyData}, acc.length + xs.length ≤ sizeLine →
    (∀ x ∈ xs, ∃ ρ1, tg.to x ρ = some ρ1 ∧ evConds U C cs ρ1 = .ok (p x) ρ1 ∧ ((evE U C e ρ1).bind fun v ρ' => fz ρ' v) = .ok x ρ1 ∧ wipeR ρ1 own = ρ) → lcE U C own tg cs e xs acc ρ = .ok (acc ++ xs.filter p) ρ
  | [], acc, _, _ => by simp [lcE_nil]
  | x :: xs, acc, hl, h => by
    obtain ⟨ρ1, h1, h2, h3, h4⟩ := h x (List.mem_cons_self ..)
    simp only [List.length_cons] at hl
    rw [lcE_cons, h1]
    simp only [h2, Out.bind_ok]
    cases c : p x with
    | true =>
      have ih := lcE_filter (xs := xs) (acc := acc ++ [x]) (by simp; omega) fun y hy => h y (List.mem_cons_of_mem _ hy)
      simp only [if_true, h3, Out.bind_ok]
      rw [if_pos (by omega), h4, ih]
      simp [c]
    | false =>
      have ih := lcE_filter (xs := xs) (acc := acc) (by omega) fun y hy => h y (List.mem_cons_of_mem _ hy)
      simp only [Bool.false_eq_true, if_false, h4, ih]
      simp [c]
theorem run_nx {s : Ev.St} {r : Sts} {ρ ρ' : Rho} (h : runS U C s ρ = .ok .nx ρ') : runSs U C (.cons s r) ρ = runSs U C r ρ' := by simp [h]
theorem run_ret {np ns : Nat} {b : Sts} {avs : List AV} {ρ0 ρ' : Rho} {r : AV} {fin : List Vr} (h : runSs U C b ρ0 = .ok (.ret r) ρ') (he : Fd.enter ⟨np, ns, b⟩ avs = ρ0) (hl : avs.length = np ∧ np ≤ ns) (hf : ρ'.take np = fin) : Fd.run U C ⟨np, ns, b⟩ avs = .ret r fin := by
  rw [run_def, if_pos hl, he, h]; simp only [hf]
theorem run_exc {np ns : Nat} {b : Sts} {avs : List AV} {ρ0 ρ' : Rho} {c : Nat} {x : PyData} {fin : List Vr} (h : runSs U C b ρ0 = .exc c x ρ') (he : Fd.enter ⟨np, ns, b⟩ avs = ρ0) (hl : avs.length = np ∧ np ≤ ns) (hf : ρ'.take np = fin) : Fd.run U C ⟨np, ns, b⟩ avs = .exc c x fin := by
  rw [run_def, if_pos hl, he, h]; simp only [hf]
theorem run_end {ρ : Rho} : runSs U C .nil ρ = .ok .nx ρ := by simp
end
end Lib

set_option linter.all false
set_option maxRecDepth 100000
/-! Ints as keys, sorted ints. -/
namespace Lib
open PySem Ev
def isI (d : PyData) : Prop := ∃ i : Int, d = .int i
theorem eqv_isI {d e : PyData} (h : isI d) (h' : isI e) : PyData.eqv d e = true ↔ d = e := by
  obtain ⟨i, rfl⟩ := h
  obtain ⟨j, rfl⟩ := h'
  simp
theorem atom_isI {d : PyData} (h : isI d) : atomB d = true := by
  obtain ⟨i, rfl⟩ := h; rfl
structure Kyi (kvs : List (PyData × PyData)) (S : List PyData) : Prop where
  nd : (kvs.map (·.1)).Nodup
  mem : ∀ d, d ∈ kvs.map (·.1) ↔ d ∈ S
  pr : ∀ d ∈ S, isI d
theorem Kyi.nil : Kyi [] [] := ⟨by simp, by simp, by simp⟩
theorem Kyi.fits {kvs : List (PyData × PyData)} {S : List PyData} (h : Kyi kvs S) {k : PyData} (hk : isI k) : keyFits kvs k = true := by
  simp only [keyFits, Bool.or_eq_true, Bool.and_eq_true, List.all_eq_true]
  exact .inl ⟨atom_isI hk, fun p hp => atom_isI (h.pr _ ((h.mem _).mp (List.mem_map.mpr ⟨p, hp, rfl⟩)))⟩
theorem Kyi.has {kvs : List (PyData × PyData)} {S : List PyData} (h : Kyi kvs S) {k : PyData} (hk : isI k) : dHas kvs k = true ↔ k ∈ S := by
  rw [← h.mem]
  simp only [dHas, List.any_eq_true, List.mem_map]
  constructor
  · rintro ⟨p, hp, e⟩
    exact ⟨p, hp, (eqv_isI (h.pr _ ((h.mem _).mp (List.mem_map.mpr ⟨p, hp, rfl⟩))) hk).mp e⟩
  · rintro ⟨p, hp, rfl⟩
    exact ⟨p, hp, (eqv_isI hk hk).mpr rfl⟩
theorem Kyi.put {kvs : List (PyData × PyData)} {S : List PyData} (h : Kyi kvs S) {k : PyData} (v : PyData) (hk : isI k) : Kyi (dPut kvs k v) (S ++ [k]) := by
  have e := put_keys (kvs := kvs) (k := k) (v := v)
  have hh := h.has hk
  refine ⟨?_, fun d => ?_, fun d hd => ?_⟩
  · rw [e]
    split
    · exact h.nd
    · rename_i c
      refine List.nodup_append.mpr ⟨h.nd, by simp, fun a ha b hb => ?_⟩
      simp at hb; subst hb
      rintro rfl
      exact c (hh.mpr ((h.mem _).mp ha))
  · rw [e]
    split
    · rename_i c
      rw [h.mem, List.mem_append, List.mem_singleton]
      exact ⟨.inl, fun z => z.elim id fun z => z ▸ hh.mp c⟩
    · rw [List.mem_append, List.mem_append, h.mem]
  · rcases List.mem_append.mp hd with hd | hd
    · exact h.pr d hd
    · simp at hd; subst hd; exact hk
section
variable {U : Consts} {C : Calls} {ρ : Rho} {own : List Nat} {tg : Tg} {cs : Exs} {e k : Ex}
theorem dcE_ints {T : Nat} (hT : T ≤ sizeLine) : ∀ {xs : List PyData} {acc : List (PyData × PyData)} {S : List PyData}, acc.length + xs.length ≤ T → Kyi acc S → (∀ x ∈ xs, isI x) →
    (∀ x ∈ xs, ∃ ρ1 y, tg.to x ρ = some ρ1 ∧ evConds U C cs ρ1 = .ok true ρ1 ∧ ((evE U C k ρ1).bind fun v ρ' => fz ρ' v) = .ok x ρ1 ∧ ((evE U C e ρ1).bind fun v ρ' => fz ρ' v) = .ok y ρ1 ∧ wipeR ρ1 own = ρ) →
    ∃ kvs, dcE U C own tg cs k e xs acc ρ = .ok kvs ρ ∧ Kyi kvs (S ++ xs) ∧ kvs.length ≤ acc.length + xs.length
  | [], acc, S, _, h, _, _ => ⟨acc, rfl, by simpa using h, by simp⟩
  | x :: xs, acc, S, hl, h, hx, st => by
    obtain ⟨ρ1, y, h1, h2, h3, h4, h5⟩ := st x (List.mem_cons_self ..)
    have px := hx x (List.mem_cons_self ..)
    simp only [List.length_cons] at hl
    have z := put_len (kvs := acc) (k := x) (v := y)
    obtain ⟨kvs, e1, e2, e3⟩ := dcE_ints hT (xs := xs) (acc := dPut acc x y) (by omega) (h.put y px) (fun z hz => hx z (List.mem_cons_of_mem _ hz)) fun z hz => st z (List.mem_cons_of_mem _ hz)
    refine ⟨kvs, ?_, by simpa using e2, by simp only [List.length_cons]; omega⟩
    rw [dcE_cons, h1]
    simp only [h2, h3, h4, Out.bind_ok, if_true]
    rw [if_pos ⟨h.fits px, by omega⟩, h5, e1]
end
theorem isI_up {f : Int} {n : Nat} {x : PyData} (h : x ∈ up f n) : isI x := by
  obtain ⟨i, _, rfl⟩ := up_mem h
  exact ⟨_, rfl⟩
theorem up_iff {f : Int} {n : Nat} {i : Int} : PyData.int i ∈ up f n ↔ f ≤ i ∧ i < f + n := by
  unfold up
  rw [List.mem_map]
  constructor
  · rintro ⟨k, hk, e⟩
    have := List.mem_range.mp hk
    simp only [PyData.int.injEq] at e
    omega
  · rintro ⟨h1, h2⟩
    exact ⟨(i - f).toNat, List.mem_range.mpr (by omega), by simp only [PyData.int.injEq]; omega⟩
theorem dle_int (i j : Int) : dle (.int i) (.int j) = decide (i ≤ j) := by
  show (!PySem.W.dataLt (.int j) (.int i)) = _
  rw [PySem.W.dataLt_int, ← decide_not]
  exact decide_eq_decide.mpr (by omega)
/-- a row of ints, each once: sorted it is the row up -/
theorem sort_up {xs : List PyData} {f : Int} {n : Nat} (nd : xs.Nodup) (mem : ∀ d, d ∈ xs ↔ d ∈ up f n) (hl : xs.length ≤ 100000) : sortedD [.list xs] = some (.o (.lst (up f n))) := by
  have hz : xs.length ≤ sizeLine := by unfold sizeLine; omega
  have pr : ∀ d ∈ xs, isI d := fun d hd => isI_up ((mem d).mp hd)
  have c : canSort xs = true := by
    simp only [canSort, Bool.and_eq_true, Bool.or_eq_true, decide_eq_true_eq, List.all_eq_true]
    refine ⟨⟨⟨fun d hd e he => ?_, hz⟩, fun d hd => ?_⟩, .inr fun d hd => ?_⟩
    · obtain ⟨i, rfl⟩ := pr d hd; obtain ⟨j, rfl⟩ := pr e he; rfl
    · obtain ⟨i, rfl⟩ := pr d hd; simp [PyData.depth]
    · obtain ⟨i, rfl⟩ := pr d hd; rfl
  simp only [sortedD, c, if_true]
  have und : (up f n).Nodup := by
    unfold up
    show ((List.range n).map fun i : Nat => PyData.int (f + i)).Pairwise (· ≠ ·)
    rw [List.pairwise_map]
    refine List.pairwise_lt_range.imp fun {a b} h e => ?_
    simp only [PyData.int.injEq] at e
    omega
  have us : (up f n).Pairwise (fun a b => dle a b = true) := by
    unfold up
    rw [List.pairwise_map]
    refine List.pairwise_lt_range.imp fun {a b} h => ?_
    rw [dle_int, decide_eq_true_eq]; omega
  have : xs.mergeSort (PySem.W.dataLe false id) = up f n := by
    refine List.Perm.eq_of_pairwise (le := fun a b => dle a b = true) (fun a b ha hb q q' => ?_) (List.pairwise_mergeSort dle_trans dle_total xs) us ((List.mergeSort_perm xs _).trans ((List.perm_ext_iff_of_nodup nd und).mpr mem))
    obtain ⟨i, rfl⟩ := pr a (List.mem_mergeSort.mp ha)
    obtain ⟨j, rfl⟩ := isI_up hb
    rw [dle_int, decide_eq_true_eq] at q q'
    have : i = j := by omega
    rw [this]
  rw [this]
theorem all_true {α : Type} (xs : List α) : allD [.list (xs.map fun _ => PyData.bool true)] = some (.d (.bool true)) := by
  simp [allD, bools_map (f := fun _ : α => true)]
theorem filter_lt {α : Type} {p q : α → Bool} {k : α} : ∀ {l : List α}, (∀ x ∈ l, q x = true → p x = true) → k ∈ l → p k = true → q k = false → (l.filter q).length < (l.filter p).length
  | x :: l, h, hk, hp, hq => by
    have le : ∀ l : List α, (∀ x ∈ l, q x = true → p x = true) → (l.filter q).length ≤ (l.filter p).length := by
      intro l
      induction l with
      | nil => intro _; simp
      | cons y l ih =>
        intro h
        have := ih fun z hz => h z (List.mem_cons_of_mem _ hz)
        have h0 := h y (List.mem_cons_self ..)
        cases c : q y with
        | true => simp [c, h0 c]; omega
        | false => cases c' : p y <;> simp [c, c'] <;> omega
    rcases List.mem_cons.mp hk with rfl | hk
    · have := le l fun z hz => h z (List.mem_cons_of_mem _ hz)
      simp [hp, hq]; omega
    · have := filter_lt (fun z hz => h z (List.mem_cons_of_mem _ hz)) hk hp hq
      have h0 := h x (List.mem_cons_self ..)
      cases c : q x with
      | true => simp [c, h0 c]; omega
      | false => cases c' : p x <;> simp [c, c'] <;> omega
end Lib

set_option linter.all false
set_option maxRecDepth 100000
/-! Words and what they repeat. -/
namespace Lib
open PySem Ev
/-- the letter at place i of A B B B .. -/
def let' (A B : List Int) (i : Nat) : Int := if i < A.length then A.getD i 0 else B.getD ((i - A.length) % B.length) 0
def lets (A B : List Int) : List Int := A ++ (List.replicate (3 + A.length) B).flatten
theorem flat_rep_len {α : Type} (B : List α) : ∀ k : Nat, (List.replicate k B).flatten.length = k * B.length
  | 0 => by simp
  | k + 1 => by rw [List.replicate_succ, List.flatten_cons, List.length_append, flat_rep_len B k, Nat.add_mul, Nat.one_mul]; omega
theorem flat_rep_get (B : List Int) : ∀ (k i : Nat), i < k * B.length → (List.replicate k B).flatten.getD i 0 = B.getD (i % B.length) 0
  | 0, i, h => by omega
  | k + 1, i, h => by
    rw [List.replicate_succ, List.flatten_cons]
    by_cases c : i < B.length
    · rw [Nat.mod_eq_of_lt c]
      simp only [List.getD_eq_getElem?_getD, List.getElem?_append_left c]
    · rw [Nat.add_mul, Nat.one_mul] at h
      have := flat_rep_get B k (i - B.length) (by omega)
      rw [Nat.mod_eq_sub_mod (by omega)]
      rw [← this]
      simp only [List.getD_eq_getElem?_getD, List.getElem?_append_right (show B.length ≤ i by omega)]
theorem lets_len (A B : List Int) : (lets A B).length = A.length + (3 + A.length) * B.length := by
  rw [lets, List.length_append, flat_rep_len]
theorem lets_get (A B : List Int) {i : Nat} (h : i < (lets A B).length) : (lets A B).getD i 0 = let' A B i := by
  rw [lets_len] at h
  unfold let' lets
  split
  · rename_i c
    simp only [List.getD_eq_getElem?_getD, List.getElem?_append_left c]
  · rename_i c
    rw [← flat_rep_get B (3 + A.length) (i - A.length) (by omega)]
    simp only [List.getD_eq_getElem?_getD, List.getElem?_append_right (show A.length ≤ i by omega)]
/-- from b on, all letters come again s places later -/
def hit (A B : List Int) (s b : Nat) : Prop := ∀ i, b ≤ i → i + s < (lets A B).length → let' A B i = let' A B (i + s)
def rep (B : List Int) : Prop := ∃ s, 1 ≤ s ∧ s < B.length ∧ s ∣ B.length ∧ ∀ i, i < B.length → B.getD i 0 = B.getD (i % s) 0
def lastOk (A B : List Int) : Prop := A = [] ∨ A.getD (A.length - 1) 0 ≠ B.getD (B.length - 1) 0
section
variable {A B : List Int} (hB : 0 < B.length)
theorem let_B (i : Nat) : let' A B (A.length + i) = B.getD (i % B.length) 0 := by
  unfold let'
  rw [if_neg (by omega), Nat.add_sub_cancel_left]
theorem hit_own : hit A B B.length A.length := fun i h _ => by
  obtain ⟨j, rfl⟩ : ∃ j, i = A.length + j := ⟨i - A.length, by omega⟩
  rw [show A.length + j + B.length = A.length + (j + B.length) by omega, let_B, let_B, Nat.add_mod_right]
/-- the periods of B B B .. -/
def Per (B : List Int) (p : Nat) : Prop := ∀ i, B.getD ((i + p) % B.length) 0 = B.getD (i % B.length) 0
theorem Per.mod {p q : Nat} (hp : Per B p) (hq : Per B q) : Per B (p % q) := by
  have mul : ∀ k, Per B (q * k) := fun k => by
    induction k with
    | zero => intro i; simp
    | succ k ih => intro i; rw [Nat.mul_succ, ← Nat.add_assoc, hq, ih]
  intro i
  have e := mul (p / q) (i + p % q)
  rw [Nat.add_assoc, Nat.mod_add_div p q, hp] at e
  exact e.symm
theorem Per.gcd {p q : Nat} (hp : Per B p) (hq : Per B q) : Per B (Nat.gcd p q) := by
  induction p, q using Nat.gcd.induction with
  | H0 n => rw [Nat.gcd_zero_left]; exact hq
  | H1 m n hm ih => rw [Nat.gcd_rec]; exact ih (hq.mod hp) hp
include hB in
theorem hit_per {s b : Nat} (hb : b ≤ A.length) (hs : s < B.length) (h : hit A B s b) : Per B s := by
  intro i
  have key : ∀ r, r < B.length → B.getD ((r + s) % B.length) 0 = B.getD (r % B.length) 0 := fun r hr => by
    have := h (A.length + r) (by omega) (by
      rw [lets_len]
      have : 3 * B.length ≤ (3 + A.length) * B.length := Nat.mul_le_mul_right _ (by omega)
      omega)
    rw [show A.length + r + s = A.length + (r + s) by omega, let_B, let_B] at this
    exact this.symm
  have := key (i % B.length) (Nat.mod_lt _ hB)
  rw [Nat.mod_mod, Nat.mod_add_mod] at this
  exact this
include hB in
theorem per_rep {s : Nat} (h1 : 1 ≤ s) (hs : s < B.length) (h : Per B s) : rep B := by
  have hm : Per B B.length := fun i => by rw [Nat.add_mod_right]
  have g := h.gcd hm
  have gp : 0 < Nat.gcd s B.length := Nat.gcd_pos_of_pos_left _ (by omega)
  have gl : Nat.gcd s B.length ≤ s := Nat.gcd_le_left _ (by omega)
  refine ⟨Nat.gcd s B.length, gp, by omega, Nat.gcd_dvd_right _ _, fun i hi => ?_⟩
  have mul : ∀ k j, B.getD ((j + Nat.gcd s B.length * k) % B.length) 0 = B.getD (j % B.length) 0 := fun k => by
    induction k with
    | zero => intro j; simp
    | succ k ih => intro j; rw [Nat.mul_succ, ← Nat.add_assoc, g, ih]
  have e := mul (i / Nat.gcd s B.length) (i % Nat.gcd s B.length)
  rw [Nat.mod_add_div, Nat.mod_eq_of_lt hi] at e
  rw [e, Nat.mod_eq_of_lt (Nat.lt_of_le_of_lt (Nat.mod_le _ _) hi)]
include hB in
theorem rep_hit {s : Nat} (h1 : 1 ≤ s) (hd : s ∣ B.length) (h : ∀ i, i < B.length → B.getD i 0 = B.getD (i % s) 0) : hit A B s A.length := by
  intro i hi _
  obtain ⟨j, rfl⟩ : ∃ j, i = A.length + j := ⟨i - A.length, by omega⟩
  rw [show A.length + j + s = A.length + (j + s) by omega, let_B, let_B, h _ (Nat.mod_lt _ hB), h _ (Nat.mod_lt (j + s) hB), Nat.mod_mod_of_dvd _ hd, Nat.mod_mod_of_dvd _ hd, Nat.add_mod_right]
include hB in
/-- a hit ahead of the last one -/
theorem early_iff : (∃ s b, 1 ≤ s ∧ s ≤ B.length ∧ b ≤ A.length ∧ (s < B.length ∨ b < A.length) ∧ hit A B s b) ↔ rep B ∨ ¬ lastOk A B := by
  constructor
  · rintro ⟨s, b, h1, h2, h3, h4, h5⟩
    by_cases c : s < B.length
    · exact .inl (per_rep hB h1 c (hit_per hB h3 c h5))
    · have hs : s = B.length := by omega
      subst hs
      have hb : b < A.length := by omega
      refine .inr ?_
      rintro (rfl | h)
      · simp at hb
      · apply h
        have := h5 (A.length - 1) (by omega) (by
          rw [lets_len]
          have : 3 * B.length ≤ (3 + A.length) * B.length := Nat.mul_le_mul_right _ (by omega)
          omega)
        rw [show A.length - 1 + B.length = A.length + (B.length - 1) by omega, let_B, Nat.mod_eq_of_lt (by omega)] at this
        rw [← this]
        unfold let'
        rw [if_pos (by omega)]
  · rintro (⟨s, h1, h2, h3, h4⟩ | h)
    · exact ⟨s, A.length, h1, by omega, Nat.le_refl _, .inl h2, rep_hit hB h1 h3 h4⟩
    · have hA : A ≠ [] := fun z => h (.inl z)
      have hl : 0 < A.length := List.length_pos_iff.mpr hA
      have he : A.getD (A.length - 1) 0 = B.getD (B.length - 1) 0 := by
        by_cases c : A.getD (A.length - 1) 0 = B.getD (B.length - 1) 0
        · exact c
        · exact absurd (.inr c) h
      refine ⟨B.length, A.length - 1, hB, Nat.le_refl _, by omega, .inr (by omega), fun i hi hlt => ?_⟩
      by_cases c : i < A.length
      · have : i = A.length - 1 := by omega
        subst this
        rw [show A.length - 1 + B.length = A.length + (B.length - 1) by omega, let_B, Nat.mod_eq_of_lt (by omega), ← he]
        unfold let'
        rw [if_pos (by omega)]
      · exact hit_own i (by omega) hlt
end
end Lib

set_option linter.all false
set_option maxRecDepth 100000
/-! The least end of a word; loops that find. -/
namespace Lib
open PySem Ev
/-- (s, b) is the first hit -/
structure Fst (A B : List Int) (s b : Nat) : Prop where
  s1 : 1 ≤ s
  s2 : s ≤ B.length
  b2 : b ≤ A.length
  hit : hit A B s b
  min : ∀ s' b', 1 ≤ s' → s' ≤ B.length → b' ≤ A.length → (s' < s ∨ s' = s ∧ b' < b) → ¬ Lib.hit A B s' b'
def leA (A B : List Int) (b : Nat) : List Int := (lets A B).take b
def leB (A B : List Int) (s b : Nat) : List Int := ((lets A B).drop b).take s
section
variable {A B : List Int} {s b : Nat} (h : Fst A B s b)
include h
theorem Fst.big : 3 * B.length + A.length ≤ (lets A B).length := by
  rw [lets_len]
  have : 3 * B.length ≤ (3 + A.length) * B.length := Nat.mul_le_mul_right _ (by omega)
  omega
theorem Fst.lenA : (leA A B b).length = b := by
  have := h.big; have := h.b2; have := h.s1; have := h.s2
  rw [leA, List.length_take]; omega
theorem Fst.lenB : (leB A B s b).length = s := by
  have := h.big; have := h.b2; have := h.s1; have := h.s2
  rw [leB, List.length_take, List.length_drop]; omega
theorem Fst.getA {i : Nat} (hi : i < b) : (leA A B b).getD i 0 = let' A B i := by
  have := h.big; have := h.b2; have := h.s1; have := h.s2
  rw [← lets_get A B (by omega), leA]
  simp only [List.getD_eq_getElem?_getD, List.getElem?_take_of_lt hi]
theorem Fst.getB {i : Nat} (hi : i < s) : (leB A B s b).getD i 0 = let' A B (b + i) := by
  have := h.big; have := h.b2; have := h.s1; have := h.s2
  rw [← lets_get A B (by omega), leB]
  simp only [List.getD_eq_getElem?_getD, List.getElem?_take_of_lt hi, List.getElem?_drop]
/-- all letters from b on are told by the first s of them -/
theorem Fst.all : ∀ j, b + j < (lets A B).length → let' A B (b + j) = let' A B (b + j % s) := by
  intro j
  have h1 := h.s1
  induction j using Nat.strongRecOn with
  | ind j ih =>
    intro hj
    by_cases c : j < s
    · rw [Nat.mod_eq_of_lt c]
    · have e := h.hit (b + (j - s)) (by omega) (by omega)
      rw [show b + (j - s) + s = b + j by omega] at e
      rw [← e, ih (j - s) (by omega) (by omega), Nat.mod_eq_sub_mod (by omega : s ≤ j)]
/-- the least end is one -/
theorem Fst.valid : ¬ rep (leB A B s b) ∧ lastOk (leA A B b) (leB A B s b) := by
  have hb := h.big; have h2 := h.b2; have h1 := h.s1; have h3 := h.s2
  constructor
  · rintro ⟨t, t1, t2, t3, t4⟩
    rw [h.lenB] at t2 t3 t4
    refine h.min t b t1 (by omega) h2 (.inl t2) fun i hi hlt => ?_
    obtain ⟨j, rfl⟩ : ∃ j, i = b + j := ⟨i - b, by omega⟩
    rw [show b + j + t = b + (j + t) by omega, h.all j (by omega), h.all (j + t) (by omega)]
    have m1 := Nat.mod_lt j (by omega : s > 0)
    have m2 := Nat.mod_lt (j + t) (by omega : s > 0)
    rw [← h.getB m1, ← h.getB m2, t4 _ m1, t4 _ m2, Nat.mod_mod_of_dvd _ t3, Nat.mod_mod_of_dvd _ t3, Nat.add_mod_right]
  · by_cases c : b = 0
    · exact .inl (by rw [leA, c, List.take_zero])
    · refine .inr fun e => ?_
      rw [h.lenA, h.lenB, h.getA (by omega), h.getB (by omega)] at e
      refine h.min s (b - 1) h1 h3 (by omega) (.inr ⟨rfl, by omega⟩) fun i hi hlt => ?_
      by_cases d : i = b - 1
      · subst d
        rw [show b - 1 + s = b + (s - 1) by omega]; exact e
      · exact h.hit i (by omega) hlt
theorem Fst.own_iff (hB : 0 < B.length) : (leA A B b = A ∧ leB A B s b = B) ↔ ¬ rep B ∧ lastOk A B := by
  have hb := h.big; have h2 := h.b2; have h1 := h.s1; have h3 := h.s2
  have ei := early_iff (A := A) hB
  constructor
  · rintro ⟨e1, e2⟩
    have l1 := h.lenA; have l2 := h.lenB
    rw [e1] at l1; rw [e2] at l2
    have : ¬ (rep B ∨ ¬ lastOk A B) := fun z => by
      obtain ⟨s', b', g1, g2, g3, g4, g5⟩ := ei.mpr z
      exact h.min s' b' g1 g2 g3 (by omega) g5
    exact ⟨fun z => this (.inl z), by
      by_cases c : lastOk A B
      · exact c
      · exact absurd (.inr c) this⟩
  · rintro ⟨g1, g2⟩
    have no : ¬ (s < B.length ∨ b < A.length) := fun z => by
      have := ei.mp ⟨s, b, h1, h3, h2, z, h.hit⟩
      rcases this with q | q
      · exact g1 q
      · exact q g2
    have hs : s = B.length := by omega
    have hbb : b = A.length := by omega
    constructor
    · rw [leA, hbb, lets, List.take_left']; rfl
    · rw [leB, hbb, hs, lets, List.drop_left' rfl]
      rw [show 3 + A.length = (2 + A.length) + 1 by omega, List.replicate_succ, List.flatten_cons, List.take_left' rfl]
end
theorem lets_mem {A B : List Int} {x : Int} (h : x ∈ lets A B) : x ∈ A ∨ x ∈ B := by
  rcases List.mem_append.mp h with h | h
  · exact .inl h
  · obtain ⟨l, hl, hx⟩ := List.mem_flatten.mp h
    rw [List.eq_of_mem_replicate hl] at hx
    exact .inr hx
section
variable {U : Consts} {C : Calls} {tg : Tg} {b : Sts}
/-- a for that stops at the first item that P tells -/
theorem forE_find {P : PyData → Bool} {R : PyData → AV → Prop} {I : Rho → Prop} : ∀ {xs : List PyData} {ρ : Rho}, I ρ →
    (∀ x ∈ xs, ∀ ρ, I ρ → ∃ ρ1 ρ2, tg.to x ρ = some ρ1 ∧ ((P x = true ∧ ∃ r, runSs U C b ρ1 = .ok (.ret r) ρ2 ∧ R x r ∧ I ρ2) ∨ (P x = false ∧ runSs U C b ρ1 = .ok .nx ρ2 ∧ I ρ2))) →
    (∃ x r ρ' pre suf, xs = pre ++ x :: suf ∧ (∀ y ∈ pre, P y = false) ∧ P x = true ∧ forE U C tg b xs ρ = .ok (.ret r) ρ' ∧ R x r ∧ I ρ') ∨ ((∀ y ∈ xs, P y = false) ∧ ∃ ρ', forE U C tg b xs ρ = .ok .nx ρ' ∧ I ρ')
  | [], ρ, hi, _ => .inr ⟨by simp, ρ, rfl, hi⟩
  | x :: xs, ρ, hi, h => by
    obtain ⟨ρ1, ρ2, h1, h2⟩ := h x (List.mem_cons_self ..) ρ hi
    rw [forE_cons, h1]
    rcases h2 with ⟨hp, r, h3, h4, h5⟩ | ⟨hp, h3, h5⟩
    · exact .inl ⟨x, r, ρ2, [], xs, rfl, by simp, hp, by simp only [h3, Out.bind_ok], h4, h5⟩
    · rcases forE_find h5 fun z hz => h z (List.mem_cons_of_mem _ hz) with ⟨y, r, ρ', pre, suf, e1, e2, e3, e4, e5, e6⟩ | ⟨e1, ρ', e2, e3⟩
      · refine .inl ⟨y, r, ρ', x :: pre, suf, by rw [e1]; rfl, fun z hz => ?_, e3, by simp only [h3, Out.bind_ok, e4], e5, e6⟩
        rcases List.mem_cons.mp hz with rfl | hz
        · exact hp
        · exact e2 z hz
      · refine .inr ⟨fun z hz => ?_, ρ', by simp only [h3, Out.bind_ok, e2], e3⟩
        rcases List.mem_cons.mp hz with rfl | hz
        · exact hp
        · exact e1 z hz
end
end Lib

set_option linter.all false
set_option maxRecDepth 100000
/-! Data that may hold empty dicts: what is shown. -/
namespace Lib
open PySem Ev
theorem up_cons (f : Int) (n : Nat) : up f (n + 1) = .int f :: up (f + 1) n := by
  unfold up
  rw [List.range_succ_eq_map, List.map_cons, List.map_map]
  simp only [Int.ofNat_zero, Int.add_zero, List.cons.injEq, Int.natCast_zero]
  refine ⟨by simp, List.map_congr_left fun k _ => ?_⟩
  simp only [Function.comp, PyData.int.injEq]
  omega
/-! ### what is shown: empty dicts too -/
mutual
def fineE : PyData → Bool
  | .int i => decide (-(10 ^ 35) < i) && decide (i < 10 ^ 35)
  | .str s => PyData.strOk s && decide (s.length ≤ 20)
  | .list xs => finesE xs
  | .tuple xs => finesE xs
  | .none => true
  | .bool _ => true
  | .dict kvs => kvs.isEmpty
def finesE : List PyData → Bool
  | [] => true
  | x :: r => fineE x && finesE r
end
theorem finesE_app : ∀ l r : List PyData, finesE (l ++ r) = (finesE l && finesE r)
  | [], r => by simp [finesE]
  | d :: l, r => by simp only [List.cons_append, finesE, finesE_app l r, Bool.and_assoc]
mutual
theorem fineE_of : ∀ d : PyData, fine d = true → fineE d = true
  | .none, _ => rfl
  | .bool _, _ => rfl
  | .int i, h => by simpa only [fineE, fine] using h
  | .str s, h => by simpa only [fineE, fine] using h
  | .list xs, h => by simp only [fineE]; exact finesE_of xs (by simpa only [fine] using h)
  | .tuple xs, h => by simp only [fineE]; exact finesE_of xs (by simpa only [fine] using h)
  | .dict _, h => by simp [fine] at h
theorem finesE_of : ∀ l : List PyData, fines l = true → finesE l = true
  | [], _ => rfl
  | x :: l, h => by
    simp only [fines, Bool.and_eq_true] at h
    simp only [finesE, Bool.and_eq_true]
    exact ⟨fineE_of x h.1, finesE_of l h.2⟩
end
mutual
theorem fineE_ok : ∀ d : PyData, fineE d = true → d.showable = true ∧ d.leavesShort 120 = true ∧ d.weight + 1 ≤ 121 * nd d
  | .none, _ => by have := fine_ok .none rfl; exact ⟨this.2.1, this.2.2.2.1, this.2.2.2.2⟩
  | .bool b, _ => by have := fine_ok (.bool b) rfl; exact ⟨this.2.1, this.2.2.2.1, this.2.2.2.2⟩
  | .int i, h => by have := fine_ok (.int i) (by simpa only [fineE, fine] using h); exact ⟨this.2.1, this.2.2.2.1, this.2.2.2.2⟩
  | .str s, h => by have := fine_ok (.str s) (by simpa only [fineE, fine] using h); exact ⟨this.2.1, this.2.2.2.1, this.2.2.2.2⟩
  | .list xs, h => by
    simp only [fineE] at h
    obtain ⟨h1, h2, h3⟩ := finesE_ok xs h
    refine ⟨by simpa [PyData.showable] using h1, by simpa [PyData.leavesShort] using h2, ?_⟩
    simp only [PyData.weight, nd]; omega
  | .tuple xs, h => by
    simp only [fineE] at h
    obtain ⟨h1, h2, h3⟩ := finesE_ok xs h
    refine ⟨by simpa [PyData.showable] using h1, by simpa [PyData.leavesShort] using h2, ?_⟩
    simp only [PyData.weight, nd]; omega
  | .dict kvs, h => by
    simp only [fineE, List.isEmpty_iff] at h
    subst h
    refine ⟨by simp [PyData.showable, PyData.showableKv], by simp [PyData.leavesShort, PyData.leavesShortKv], by simp [PyData.weight, PyData.weightKv, nd]⟩
theorem finesE_ok : ∀ l : List PyData, finesE l = true → PyData.showableAll l = true ∧ PyData.leavesShortAll 120 l = true ∧ PyData.weightAll l ≤ 121 * nds l
  | [], _ => by simp [PyData.showableAll, PyData.leavesShortAll, PyData.weightAll, nds]
  | x :: l, h => by
    simp only [finesE, Bool.and_eq_true] at h
    obtain ⟨a1, a2, a3⟩ := fineE_ok x h.1
    obtain ⟨h1, h2, h3⟩ := finesE_ok l h.2
    refine ⟨by simp [PyData.showableAll, a1, h1], by simp [PyData.leavesShortAll, a2, h2], ?_⟩
    simp only [PyData.weightAll, nds]; omega
end
theorem reprE {d : PyData} (h : fineE d = true) (h1 : nd d ≤ 1000) (h2 : d.depth ≤ 64) : reprD [d] = some (.d (.str d.shown)) := by
  obtain ⟨a2, a4, a5⟩ := fineE_ok d h
  have := PyData.shown_le 120 (by decide) d a4
  have hz : d.shown.length ≤ sizeLine := by unfold sizeLine; omega
  simp [reprD, a2, h2, hz]
end Lib

set_option Elab.async false
set_option linter.all false
set_option maxRecDepth 100000
namespace W
open PySem Ev L2
def top (i : Nat) : Stmt := PySem.Challenge.pw_wholeparts_k00_whole_terms_formed_and_me.main.body.getD i (.Pass ⟨0, 0, 0, 0⟩)
/-- is_integer -/
def b0 : Sts := (.cons (.ret (.band (.isi .int (.var 0)) (.cons (.lnot (.isi .bool (.var 0))) .nil))) .nil)
/-- is_natural -/
def b1 : Sts := (.cons (.ret (.band (.call 0 (.val (.var 0) .nil)) (.cons (.cmp .GtE (.var 0) (.lit (.int 0))) .nil))) .nil)
/-- told_inner -/
def b2 : Sts := (.cons (.ite (.call 0 (.val (.var 0) .nil)) (.cons (.ret (.ite (.cmp .GtE (.var 0) (.lit (.int 0))) (.tup .nil) (.lit (.none)))) .nil) .nil) (.cons (.ite (.bor (.lnot (.isi .tuple (.var 0))) (.cons (.cmp .Lt (.blt .len (.cons (.var 0) .nil)) (.lit (.int 2))) (.cons (.lnot (.isi .str (.idx (.var 0) (.lit (.int 0))))) .nil))) (.cons (.ret (.lit (.none))) .nil) .nil) (.cons (.ite (.cmp .Eq (.idx (.var 0) (.lit (.int 0))) (.lit (.str "sum"))) (.cons (.ret (.ite (.cmp .Gt (.blt .len (.cons (.var 0) .nil)) (.lit (.int 2))) (.slc (.var 0) (.cons (.lit (.int 1)) .nil) .nil) (.lit (.none)))) .nil) .nil) (.cons (.ret (.ite (.band (.cmp .In (.idx (.var 0) (.lit (.int 0))) (.glob 0)) (.cons (.cmp .Eq (.blt .len (.cons (.var 0) .nil)) (.lit (.int 2))) .nil)) (.slc (.var 0) (.cons (.lit (.int 1)) .nil) .nil) (.lit (.none)))) .nil))))
def b3_c0 : Ex := .cmp .Gt (.blt .len (.cons (.var 1) .nil)) (.lit (.int 0))
def b3_b0 : Sts := (.cons (.asg 2 (.call 2 (.val (.pop 1) .nil))) (.cons (.ite (.isN false (.var 2)) (.cons (.ret (.lit (.bool false))) .nil) .nil) (.cons (.exs (.ext 1 (.var 2))) .nil)))
/-- is_term_in -/
def b3 : Sts := (.cons (.asg 1 (.lst (.cons (.var 0) .nil))) (.cons (.whl b3_c0 b3_b0) (.cons (.ret (.lit (.bool true))) .nil)))
/-- check_term -/
def b4 : Sts := (.cons (.ite (.lnot (.call 3 (.val (.var 0) .nil))) (.cons (.raise 1 (.var 0)) .nil) .nil) .nil)
/-- inner_terms -/
def b5 : Sts := (.cons (.ret (.ite (.call 0 (.val (.var 0) .nil)) (.tup .nil) (.slc (.var 0) (.cons (.lit (.int 1)) .nil) .nil))) .nil)
def b6_e0 : Ex := .call 6 (.val (.var 1) .nil)
/-- signs_in -/
def b6 : Sts := (.cons (.ret (.bin .Add (.lit (.int 1)) (.blt .sum (.cons (.lc [1] (.nm 1) (.ev (.call 5 (.val (.var 0) .nil))) .nil b6_e0) .nil)))) .nil)
def b7_e0 : Ex := .call 7 (.val (.var 1) .nil)
/-- has_place_in -/
def b7 : Sts := (.cons (.ite (.call 1 (.val (.var 0) .nil)) (.cons (.ret (.cmp .Gt (.var 0) (.lit (.int 0)))) .nil) .nil) (.cons (.ret (.bor (.cmp .In (.idx (.var 0) (.lit (.int 0))) (.glob 0)) (.cons (.blt .any (.cons (.lc [1] (.nm 1) (.ev (.slc (.var 0) (.cons (.lit (.int 1)) .nil) .nil)) .nil b7_e0) .nil)) .nil))) .nil))
def b8_e0 : Ex := .call 8 (.val (.var 2) .nil)
/-- how_many_places_in -/
def b8 : Sts := (.cons (.ite (.call 1 (.val (.var 0) .nil)) (.cons (.ret (.var 0)) .nil) .nil) (.cons (.ite (.cmp .Eq (.idx (.var 0) (.lit (.int 0))) (.lit (.str "dust"))) (.cons (.ret (.lit (.none))) .nil) .nil) (.cons (.asg 1 (.lc [2] (.nm 2) (.ev (.slc (.var 0) (.cons (.lit (.int 1)) .nil) .nil)) .nil b8_e0)) (.cons (.ite (.cmp .Eq (.idx (.var 0) (.lit (.int 0))) (.lit (.str "limit"))) (.cons (.ret (.ite (.cmp .Eq (.idx (.var 1) (.lit (.int 0))) (.lit (.int 0))) (.lit (.int 1)) (.lit (.none)))) .nil) .nil) (.cons (.ret (.ite (.cmp .In (.lit (.none)) (.var 1)) (.lit (.none)) (.blt .sum (.cons (.var 1) .nil)))) .nil)))))
def b9_e0 : Ex := .call 9 (.val (.var 2) .nil)
/-- how_many_isolated_in -/
def b9 : Sts := (.cons (.ite (.call 1 (.val (.var 0) .nil)) (.cons (.ret (.var 0)) .nil) .nil) (.cons (.asg 1 (.lc [2] (.nm 2) (.ev (.slc (.var 0) (.cons (.lit (.int 1)) .nil) .nil)) .nil b9_e0)) (.cons (.ite (.cmp .Eq (.idx (.var 0) (.lit (.int 0))) (.lit (.str "sum"))) (.cons (.ret (.ite (.cmp .In (.lit (.none)) (.var 1)) (.lit (.none)) (.blt .sum (.cons (.var 1) .nil)))) .nil) .nil) (.cons (.ite (.cmp .NotEq (.idx (.var 1) (.lit (.int 0))) (.lit (.int 0))) (.cons (.ret (.lit (.none))) .nil) .nil) (.cons (.ret (.ite (.band (.cmp .Eq (.idx (.var 0) (.lit (.int 0))) (.lit (.str "limit"))) (.cons (.lnot (.call 7 (.val (.idx (.var 0) (.lit (.int 1))) .nil))) .nil)) (.lit (.int 1)) (.lit (.int 0)))) .nil)))))
/-- is_term -/
def b10 : Sts := (.cons (.ret (.call 3 (.val (.var 0) .nil))) .nil)
/-- signs -/
def b11 : Sts := (.cons (.exs (.call 4 (.val (.var 0) .nil))) (.cons (.ret (.call 6 (.val (.var 0) .nil))) .nil))
/-- has_place -/
def b12 : Sts := (.cons (.exs (.call 4 (.val (.var 0) .nil))) (.cons (.ret (.call 7 (.val (.var 0) .nil))) .nil))
/-- how_many_places -/
def b13 : Sts := (.cons (.exs (.call 4 (.val (.var 0) .nil))) (.cons (.ret (.call 8 (.val (.var 0) .nil))) .nil))
/-- how_many_isolated -/
def b14 : Sts := (.cons (.exs (.call 4 (.val (.var 0) .nil))) (.cons (.ret (.call 9 (.val (.var 0) .nil))) .nil))
def b15_b0 : Sts := (.cons (.asg 2 (.bin .Mod (.blt .int (.cons (.bin .Add (.bin .Add (.bin .Add (.bin .Mult (.var 2) (.lit (.int 6700417))) (.bin .Mod (.blt .abs (.cons (.blt .int (.cons (.var 5) .nil)) .nil)) (.bin .Add (.bin .Pow (.lit (.int 10)) (.lit (.int 27))) (.lit (.int 103))))) (.bin .Mult (.lit (.int 3)) (.var 4))) (.blt .int (.cons (.cmp .Lt (.var 5) (.lit (.int 0))) .nil))) .nil)) (.bin .Add (.bin .Pow (.lit (.int 10)) (.lit (.int 29))) (.lit (.int 319))))) .nil)
/-- _law_spring -/
def b15 : Sts := (.cons (.asg 2 (.bin .Add (.bin .Add (.lit (.int 71)) (.bin .Mult (.lit (.int 19)) (.var 1))) (.blt .len (.cons (.slc (.var 0) .nil (.cons (.lit (.int 63)) .nil)) .nil)))) (.cons (.forr (.tp [4, 5]) (.enum (.slc (.var 0) .nil (.cons (.lit (.int 63)) .nil))) b15_b0) (.cons (.asg 3 (.ite (.cmp .Lt (.var 1) (.blt .len (.cons (.var 0) .nil))) (.blt .abs (.cons (.blt .int (.cons (.idx (.var 0) (.var 1)) .nil)) .nil)) (.lit (.int 0)))) (.cons (.ret (.lst (.cons (.blt .max2 (.cons (.lit (.int 0)) (.cons (.bin .Sub (.var 3) (.bin .Pow (.lit (.int 10)) (.lit (.int 18)))) .nil))) (.cons (.var 2) .nil)))) .nil))))
/-- _law_draw -/
def b16 : Sts := (.cons (.ite (.cmp .Gt (.idx (.var 0) (.lit (.int 0))) (.lit (.int 0))) (.cons (.asg 2 (.bin .Mod (.blt .int (.cons (.idx (.var 0) (.lit (.int 0))) .nil)) (.var 1))) (.cons (.setIx 0 (.lit (.int 0)) (.bin .FloorDiv (.idx (.var 0) (.lit (.int 0))) (.var 1))) (.cons (.ret (.var 2)) .nil))) .nil) (.cons (.setIx 0 (.lit (.int 1)) (.bin .Mod (.blt .int (.cons (.bin .Add (.bin .Mult (.idx (.var 0) (.lit (.int 1))) (.lit (.int 4811295983708204869))) (.lit (.int 1234567891011))) .nil)) (.bin .Add (.bin .Pow (.lit (.int 10)) (.lit (.int 29))) (.lit (.int 319))))) (.cons (.ret (.bin .Mod (.blt .int (.cons (.bin .FloorDiv (.idx (.var 0) (.lit (.int 1))) (.bin .Pow (.lit (.int 10)) (.lit (.int 10)))) .nil)) (.var 1))) .nil)))
/-- _law_same -/
def b17 : Sts := (.cons (.ret (.cmp .Eq (.blt .repr (.cons (.var 0) .nil)) (.blt .repr (.cons (.var 1) .nil)))) .nil)
def b18_e0 : Ex := .call 18 (.val (.var 1) .nil)
/-- _law_signs -/
def b18 : Sts := (.cons (.ite (.isi .int (.var 0)) (.cons (.ret (.lit (.int 1))) .nil) .nil) (.cons (.ret (.bin .Add (.lit (.int 1)) (.blt .sum (.cons (.lc [1] (.nm 1) (.ev (.slc (.var 0) (.cons (.lit (.int 1)) .nil) .nil)) .nil b18_e0) .nil)))) .nil))
def b19_s0 : Ev.St := .asg 4 (.call 16 (.io 0 (.val (.lit (.int 9)) .nil)))
def b19_s1 : Ev.St := .ite (.bor (.cmp .Eq (.var 1) (.lit (.int 1))) (.cons (.cmp .Eq (.var 4) (.lit (.int 0))) .nil)) (.cons (.ret (.idx (.lst (.cons (.lit (.int 0)) (.cons (.lit (.int 1)) (.cons (.lit (.int 1)) (.cons (.lit (.int 2)) (.cons (.lit (.int 3)) (.cons (.call 16 (.io 0 (.val (.var 3) .nil))) .nil))))))) (.call 16 (.io 0 (.val (.lit (.int 6)) .nil))))) .nil) .nil
def b19_s2 : Ev.St := .ite (.band (.cmp .Gt (.var 2) (.lit (.int 0))) (.cons (.cmp .Lt (.var 4) (.lit (.int 6))) .nil)) (.cons (.ret (.tup (.cons (.idx (.lst (.cons (.lit (.str "limit")) (.cons (.lit (.str "dust")) .nil))) (.call 16 (.io 0 (.val (.lit (.int 2)) .nil)))) (.cons (.call 19 (.io 0 (.val (.bin .Sub (.var 1) (.lit (.int 1))) (.val (.bin .Sub (.var 2) (.lit (.int 1))) (.val (.var 3) .nil))))) .nil)))) .nil) .nil
def b19_s3 : Ev.St := .ite (.cmp .Eq (.var 1) (.lit (.int 2))) (.cons (.ret (.call 16 (.io 0 (.val (.lit (.int 3)) .nil)))) .nil) .nil
def b19_s4 : Ev.St := .par [7, 8] (.cons (.bin .Sub (.var 1) (.lit (.int 1))) (.cons (.lst .nil) .nil))
def b19_s5 : Ev.St := .asg 5 (.bin .Add (.lit (.int 2)) (.call 16 (.io 0 (.val (.blt .min2 (.cons (.lit (.int 3)) (.cons (.bin .Sub (.var 7) (.lit (.int 1))) .nil))) .nil))))
def b19_b0 : Sts := (.cons (.exs (.app 8 (.call 19 (.io 0 (.val (.bin .Add (.lit (.int 1)) (.call 16 (.io 0 (.val (.bin .Sub (.var 7) (.bin .Sub (.bin .Sub (.var 5) (.var 6)) (.lit (.int 1)))) .nil)))) (.val (.var 2) (.val (.var 3) .nil))))))) (.cons (.asg 7 (.bin .Sub (.var 7) (.call 18 (.val (.idx (.var 8) (.neg (.lit (.int 1)))) .nil)))) .nil))
def b19_s6 : Ev.St := .forr (.nm 6) (.rng1 (.var 5)) b19_b0
def b19_s7 : Ev.St := .ret (.bin .Add (.tup (.cons (.lit (.str "sum")) .nil)) (.blt .tuple (.cons (.var 8) .nil)))
/-- _law_term -/
def b19 : Sts := (.cons b19_s0 (.cons b19_s1 (.cons b19_s2 (.cons b19_s3 (.cons b19_s4 (.cons b19_s5 (.cons b19_s6 (.cons b19_s7 .nil))))))))
def b20_e0 : Ex := .idx (.var 8) (.var 3)
def b20_b0 : Sts := (.cons (.asg 7 (.lc [8] (.nm 8) (.ev (.var 1)) .nil b20_e0)) (.cons (.exs (.app 2 (.ite (.cmp .In (.neg (.lit (.int 1))) (.var 7)) (.neg (.lit (.int 1))) (.blt .sum (.cons (.var 7) .nil))))) .nil))
def b20_e1 : Ex := .call 20 (.val (.var 6) .nil)
/-- _law_count -/
def b20 : Sts := (.cons (.ite (.isi .int (.var 0)) (.cons (.ret (.lst (.cons (.var 0) (.cons (.var 0) .nil)))) .nil) .nil) (.cons (.asg 1 (.lc [6] (.nm 6) (.ev (.slc (.var 0) (.cons (.lit (.int 1)) .nil) .nil)) .nil b20_e1)) (.cons (.ite (.cmp .Eq (.idx (.var 0) (.lit (.int 0))) (.lit (.str "sum"))) (.cons (.asg 2 (.lst .nil)) (.cons (.forr (.nm 3) (.ev (.tup (.cons (.lit (.int 0)) (.cons (.lit (.int 1)) .nil)))) b20_b0) (.cons (.ret (.var 2)) .nil))) .nil) (.cons (.asgT [4, 5] (.idx (.var 1) (.lit (.int 0)))) (.cons (.ite (.band (.cmp .Eq (.idx (.var 0) (.lit (.int 0))) (.lit (.str "limit"))) (.cons (.cmp .Eq (.var 4) (.lit (.int 0))) .nil)) (.cons (.ret (.lst (.cons (.lit (.int 1)) (.cons (.lit (.int 1)) .nil)))) .nil) .nil) (.cons (.ret (.lst (.cons (.neg (.lit (.int 1))) (.cons (.ite (.cmp .Eq (.var 5) (.lit (.int 0))) (.lit (.int 0)) (.neg (.lit (.int 1)))) .nil)))) .nil))))))
/-- _law_put -/
def b21 : Sts := (.cons (.ite (.bor (.isi .int (.var 1)) (.cons (.cmp .Eq (.call 16 (.io 0 (.val (.lit (.int 5)) .nil))) (.lit (.int 0))) .nil)) (.cons (.ret (.var 2)) .nil) .nil) (.cons (.asg 3 (.bin .Add (.lit (.int 1)) (.call 16 (.io 0 (.val (.bin .Sub (.blt .len (.cons (.var 1) .nil)) (.lit (.int 1))) .nil))))) (.cons (.ret (.bin .Add (.bin .Add (.slc (.var 1) .nil (.cons (.var 3) .nil)) (.tup (.cons (.call 21 (.io 0 (.val (.idx (.var 1) (.var 3)) (.val (.var 2) .nil)))) .nil))) (.slc (.var 1) (.cons (.bin .Add (.var 3) (.lit (.int 1))) .nil) .nil))) .nil)))
/-- _law_odd -/
def b22 : Sts := (.cons (.asg 2 (.lst (.cons (.bin .Sub (.neg (.lit (.int 1))) (.call 16 (.io 0 (.val (.bin .Pow (.lit (.int 10)) (.lit (.int 6))) .nil)))) (.cons (.lit (.bool true)) (.cons (.lit (.bool false)) (.cons (.lit (.none)) (.cons (.lit (.str "0")) (.cons (.tup .nil) (.cons (.lst .nil) (.cons (.lst (.cons (.lit (.str "limit")) (.cons (.var 1) .nil))) (.cons (.tup (.cons (.lit (.str "limit")) .nil)) (.cons (.tup (.cons (.lit (.str "dust")) .nil)) .nil)))))))))))) (.cons (.asg 2 (.bin .Add (.var 2) (.lst (.cons (.tup (.cons (.lit (.str "sum")) .nil)) (.cons (.tup (.cons (.lit (.str "sum")) (.cons (.var 1) .nil))) (.cons (.tup (.cons (.lit (.str "limit")) (.cons (.var 1) (.cons (.var 1) .nil)))) (.cons (.tup (.cons (.lit (.str "dust")) (.cons (.var 1) (.cons (.lit (.int 0)) .nil)))) (.cons (.tup (.cons (.lit (.str "none")) .nil)) (.cons (.tup (.cons (.lit (.str "Limit")) (.cons (.var 1) .nil))) .nil))))))))) (.cons (.asg 2 (.bin .Add (.var 2) (.lst (.cons (.tup (.cons (.lit (.str "on")) (.cons (.var 1) .nil))) (.cons (.tup (.cons (.var 1) (.cons (.var 1) .nil))) (.cons (.tup (.cons (.lit (.none)) (.cons (.var 1) .nil))) (.cons (.lit (.str "dust")) (.cons (.tup (.cons (.tup .nil) .nil)) (.cons (.tup (.cons (.lit (.str "sum")) (.cons (.var 1) (.cons (.lit (.str "1")) .nil)))) (.cons (.dnew) (.cons (.tup (.cons (.lit (.str "sum")) (.cons (.lst (.cons (.lit (.int 1)) (.cons (.lit (.int 2)) .nil))) .nil))) .nil))))))))))) (.cons (.ret (.idx (.var 2) (.call 16 (.io 0 (.val (.blt .len (.cons (.var 2) .nil)) .nil))))) .nil))))
/-- _law_call -/
def b23 : Sts := (.cons (.ite (.cmp .Eq (.var 0) (.lit (.int 0))) (.cons (.ret (.call 11 (.val (.var 1) .nil))) .nil) .nil) (.cons (.ite (.cmp .Eq (.var 0) (.lit (.int 1))) (.cons (.ret (.call 12 (.val (.var 1) .nil))) .nil) .nil) (.cons (.ret (.ite (.cmp .Eq (.var 0) (.lit (.int 2))) (.call 13 (.val (.var 1) .nil)) (.call 14 (.val (.var 1) .nil)))) .nil)))
def b24_t0 : Sts := (.cons (.exs (.call 23 (.val (.var 0) (.val (.var 1) .nil)))) .nil)
/-- _law_is_refused -/
def b24 : Sts := (.cons (.asg 2 (.lit (.none))) (.cons (.tryC b24_t0 0 3 2) (.cons (.ite (.bor (.lnot (.isx (some 1) (.var 2))) (.cons (.isx (some 2) (.var 2)) .nil)) (.cons (.ret (.lit (.bool false))) .nil) .nil) (.cons (.ret (.band (.isx none (.var 2)) (.cons (.call 17 (.val (.xval (.var 2)) (.val (.var 1) .nil))) .nil))) .nil))))
def b25_s0 : Ev.St := .asg 2 (.call 15 (.val (.var 0) (.val (.var 1) .nil)))
def b25_s1 : Ev.St := .asg 3 (.call 16 (.io 2 (.val (.lit (.int 4)) .nil)))
def b25_s2 : Ev.St := .asg 4 (.call 22 (.io 2 (.val (.tup (.cons (.lit (.str "limit")) (.cons (.lit (.int 2)) .nil))) .nil)))
def b25_s3 : Ev.St := .asg 5 (.call 19 (.io 2 (.val (.bin .Add (.lit (.int 1)) (.call 16 (.io 2 (.val (.lit (.int 40)) .nil)))) (.val (.lit (.int 6)) (.val (.bin .Pow (.lit (.int 10)) (.lit (.int 30))) .nil)))))
def b25_s4 : Ev.St := .asg 6 (.call 21 (.io 2 (.val (.var 5) (.val (.var 4) .nil))))
def b25_s5 : Ev.St := .ite (.bor (.cmp .IsNot (.callK 10 (.val (.var 5) .nil)) (.lit (.bool true))) (.cons (.cmp .IsNot (.call 10 (.val (.var 6) .nil)) (.lit (.bool false))) .nil)) (.cons (.ret (.lit (.bool false))) .nil) .nil
def b25_s6 : Ev.St := .asgT [9, 10] (.call 20 (.val (.var 5) .nil))
def b25_s7 : Ev.St := .asg 7 (.lst (.cons (.call 18 (.val (.var 5) .nil)) (.cons (.cmp .NotEq (.var 9) (.lit (.int 0))) (.cons (.ite (.cmp .Lt (.var 9) (.lit (.int 0))) (.lit (.none)) (.var 9)) (.cons (.ite (.cmp .Lt (.var 10) (.lit (.int 0))) (.lit (.none)) (.var 10)) .nil)))))
def b25_s8 : Ev.St := .asg 8 (.lst (.cons (.callK 11 (.val (.var 5) .nil)) (.cons (.callK 12 (.val (.var 5) .nil)) (.cons (.callK 13 (.val (.var 5) .nil)) (.cons (.callK 14 (.val (.var 5) .nil)) .nil)))))
def b25_s9 : Ev.St := .ite (.lnot (.call 17 (.val (.var 8) (.val (.var 7) .nil)))) (.cons (.ret (.lit (.bool false))) .nil) .nil
def b25_s10 : Ev.St := .ite (.bor (.lnot (.call 24 (.val (.var 3) (.val (.var 6) .nil)))) (.cons (.lnot (.call 24 (.val (.bin .Mod (.bin .Add (.bin .Add (.var 3) (.lit (.int 1))) (.var 1)) (.lit (.int 4))) (.val (.var 4) .nil)))) .nil)) (.cons (.ret (.lit (.bool false))) .nil) .nil
def b25_b0 : Sts := (.cons b25_s0 (.cons b25_s1 (.cons b25_s2 (.cons b25_s3 (.cons b25_s4 (.cons b25_s5 (.cons b25_s6 (.cons b25_s7 (.cons b25_s8 (.cons b25_s9 (.cons b25_s10 .nil)))))))))))
/-- law -/
def b25 : Sts := (.cons (.forr (.nm 1) (.rng1 (.blt .max2 (.cons (.lit (.int 1)) (.cons (.blt .min2 (.cons (.lit (.int 6)) (.cons (.blt .len (.cons (.var 0) .nil)) .nil))) .nil)))) b25_b0) (.cons (.ret (.lit (.bool true))) .nil))
def f0 : FnS := ⟨"is_integer", ["value"], ["value"], top 5, ⟨1, 1, b0⟩, []⟩
def f1 : FnS := ⟨"is_natural", ["value"], ["value"], top 6, ⟨1, 1, b1⟩, []⟩
def f2 : FnS := ⟨"told_inner", ["told"], ["told"], top 9, ⟨1, 1, b2⟩, []⟩
def f3 : FnS := ⟨"is_term_in", ["told"], ["told", "waiting", "inner"], top 10, ⟨1, 3, b3⟩, []⟩
def f4 : FnS := ⟨"check_term", ["term"], ["term"], top 11, ⟨1, 1, b4⟩, []⟩
def f5 : FnS := ⟨"inner_terms", ["term"], ["term"], top 12, ⟨1, 1, b5⟩, []⟩
def f6 : FnS := ⟨"signs_in", ["term"], ["term", "part"], top 13, ⟨1, 2, b6⟩, []⟩
def f7 : FnS := ⟨"has_place_in", ["term"], ["term", "part"], top 14, ⟨1, 2, b7⟩, []⟩
def f8 : FnS := ⟨"how_many_places_in", ["term"], ["term", "counts", "part"], top 15, ⟨1, 3, b8⟩, []⟩
def f9 : FnS := ⟨"how_many_isolated_in", ["term"], ["term", "counts", "part"], top 16, ⟨1, 3, b9⟩, []⟩
def f10 : FnS := ⟨"is_term", ["told"], ["told"], top 17, ⟨1, 1, b10⟩, []⟩
def f11 : FnS := ⟨"signs", ["term"], ["term"], top 18, ⟨1, 1, b11⟩, []⟩
def f12 : FnS := ⟨"has_place", ["term"], ["term"], top 19, ⟨1, 1, b12⟩, []⟩
def f13 : FnS := ⟨"how_many_places", ["term"], ["term"], top 20, ⟨1, 1, b13⟩, []⟩
def f14 : FnS := ⟨"how_many_isolated", ["term"], ["term"], top 21, ⟨1, 1, b14⟩, []⟩
def f15 : FnS := ⟨"_law_spring", ["script", "at"], ["script", "at", "mixed", "great", "place", "cell"], top 23, ⟨2, 6, b15⟩, []⟩
def f16 : FnS := ⟨"_law_draw", ["spring", "many"], ["spring", "many", "found"], top 24, ⟨2, 3, b16⟩, []⟩
def f17 : FnS := ⟨"_law_same", ["told", "due"], ["told", "due"], top 25, ⟨2, 2, b17⟩, []⟩
def f18 : FnS := ⟨"_law_signs", ["term"], ["term", "part"], top 26, ⟨1, 2, b18⟩, []⟩
def f19 : FnS := ⟨"_law_term", ["spring", "most", "nest", "great"], ["spring", "most", "nest", "great", "way", "many", "turn", "left", "parts"], top 27, ⟨4, 9, b19⟩, []⟩
def f20 : FnS := ⟨"_law_count", ["term"], ["term", "counts", "found", "at", "places", "alone", "part", "own", "count"], top 28, ⟨1, 9, b20⟩, []⟩
def f21 : FnS := ⟨"_law_put", ["spring", "term", "thing"], ["spring", "term", "thing", "at"], top 29, ⟨3, 4, b21⟩, []⟩
def f22 : FnS := ⟨"_law_odd", ["spring", "term"], ["spring", "term", "odd"], top 30, ⟨2, 3, b22⟩, []⟩
def f23 : FnS := ⟨"_law_call", ["door", "told"], ["door", "told"], top 31, ⟨2, 2, b23⟩, []⟩
def f24 : FnS := ⟨"_law_is_refused", ["door", "told"], ["door", "told", "caught", "e"], top 32, ⟨2, 4, b24⟩, []⟩
def f25 : FnS := ⟨"law", ["script"], ["script", "at", "spring", "door", "odd", "term", "bent", "due", "told", "places", "alone"], top 33, ⟨1, 11, b25⟩, []⟩
def fs : List FnS := [f0, f1, f2, f3, f4, f5, f6, f7, f8, f9, f10, f11, f12, f13, f14, f15, f16, f17, f18, f19, f20, f21, f22, f23, f24, f25]
def dat0 : PyData := .tuple [.str "limit", .str "dust"]
def tb : Tb := ⟨[("POWERS", dat0)], [], fs.map fun f => (f.x, f.ps), ["ValueError", "abs", "any", "bool", "enumerate", "int", "isinstance", "len", "max", "min", "range", "repr", "str", "sum", "tuple"], [0, 1, 2], fs.map (·.kw)⟩
def initSt : Stmt := match top 1 with | .ClassDef _ _ _ (st :: _) _ _ _ _ _ _ _ => st | _ => .Pass ⟨0, 0, 0, 0⟩
theorem initIs : IsInit initSt := ⟨⟨_, _, _, _, _, _, _, _, _, _, by decide, rfl⟩, scopeB_ok (by decide), rfl, rfl, rfl⟩
theorem initBinds {q : Str} : BindsI q initSt := fun _ _ _ _ _ _ us h => match us, h with | [_, _], _ => rfl
theorem okAll : fs.all (Ev.FnS.ok tb) = true := by decide +kernel
theorem bind0 : BindsF f0 := fun _ _ _ _ _ _ us h => match us, h with | [_], _ => ⟨rfl, rfl⟩
theorem bind1 : BindsF f1 := fun _ _ _ _ _ _ us h => match us, h with | [_], _ => ⟨rfl, rfl⟩
theorem bind2 : BindsF f2 := fun _ _ _ _ _ _ us h => match us, h with | [_], _ => ⟨rfl, rfl⟩
theorem bind3 : BindsF f3 := fun _ _ _ _ _ _ us h => match us, h with | [_], _ => ⟨rfl, rfl⟩
theorem bind4 : BindsF f4 := fun _ _ _ _ _ _ us h => match us, h with | [_], _ => ⟨rfl, rfl⟩
theorem bind5 : BindsF f5 := fun _ _ _ _ _ _ us h => match us, h with | [_], _ => ⟨rfl, rfl⟩
theorem bind6 : BindsF f6 := fun _ _ _ _ _ _ us h => match us, h with | [_], _ => ⟨rfl, rfl⟩
theorem bind7 : BindsF f7 := fun _ _ _ _ _ _ us h => match us, h with | [_], _ => ⟨rfl, rfl⟩
theorem bind8 : BindsF f8 := fun _ _ _ _ _ _ us h => match us, h with | [_], _ => ⟨rfl, rfl⟩
theorem bind9 : BindsF f9 := fun _ _ _ _ _ _ us h => match us, h with | [_], _ => ⟨rfl, rfl⟩
theorem bind10 : BindsF f10 := fun _ _ _ _ _ _ us h => match us, h with | [_], _ => ⟨rfl, rfl⟩
theorem bind11 : BindsF f11 := fun _ _ _ _ _ _ us h => match us, h with | [_], _ => ⟨rfl, rfl⟩
theorem bind12 : BindsF f12 := fun _ _ _ _ _ _ us h => match us, h with | [_], _ => ⟨rfl, rfl⟩
theorem bind13 : BindsF f13 := fun _ _ _ _ _ _ us h => match us, h with | [_], _ => ⟨rfl, rfl⟩
theorem bind14 : BindsF f14 := fun _ _ _ _ _ _ us h => match us, h with | [_], _ => ⟨rfl, rfl⟩
theorem bind15 : BindsF f15 := fun _ _ _ _ _ _ us h => match us, h with | [_, _], _ => ⟨rfl, rfl⟩
theorem bind16 : BindsF f16 := fun _ _ _ _ _ _ us h => match us, h with | [_, _], _ => ⟨rfl, rfl⟩
theorem bind17 : BindsF f17 := fun _ _ _ _ _ _ us h => match us, h with | [_, _], _ => ⟨rfl, rfl⟩
theorem bind18 : BindsF f18 := fun _ _ _ _ _ _ us h => match us, h with | [_], _ => ⟨rfl, rfl⟩
theorem bind19 : BindsF f19 := fun _ _ _ _ _ _ us h => match us, h with | [_, _, _, _], _ => ⟨rfl, rfl⟩
theorem bind20 : BindsF f20 := fun _ _ _ _ _ _ us h => match us, h with | [_], _ => ⟨rfl, rfl⟩
theorem bind21 : BindsF f21 := fun _ _ _ _ _ _ us h => match us, h with | [_, _, _], _ => ⟨rfl, rfl⟩
theorem bind22 : BindsF f22 := fun _ _ _ _ _ _ us h => match us, h with | [_, _], _ => ⟨rfl, rfl⟩
theorem bind23 : BindsF f23 := fun _ _ _ _ _ _ us h => match us, h with | [_, _], _ => ⟨rfl, rfl⟩
theorem bind24 : BindsF f24 := fun _ _ _ _ _ _ us h => match us, h with | [_, _], _ => ⟨rfl, rfl⟩
theorem bind25 : BindsF f25 := fun _ _ _ _ _ _ us h => match us, h with | [_], _ => ⟨rfl, rfl⟩
theorem bindw0 : ∀ v ∈ f0.kw, BindsW f0 v := all_nil
theorem bindw1 : ∀ v ∈ f1.kw, BindsW f1 v := all_nil
theorem bindw2 : ∀ v ∈ f2.kw, BindsW f2 v := all_nil
theorem bindw3 : ∀ v ∈ f3.kw, BindsW f3 v := all_nil
theorem bindw4 : ∀ v ∈ f4.kw, BindsW f4 v := all_nil
theorem bindw5 : ∀ v ∈ f5.kw, BindsW f5 v := all_nil
theorem bindw6 : ∀ v ∈ f6.kw, BindsW f6 v := all_nil
theorem bindw7 : ∀ v ∈ f7.kw, BindsW f7 v := all_nil
theorem bindw8 : ∀ v ∈ f8.kw, BindsW f8 v := all_nil
theorem bindw9 : ∀ v ∈ f9.kw, BindsW f9 v := all_nil
theorem bindw10 : ∀ v ∈ f10.kw, BindsW f10 v := all_nil
theorem bindw11 : ∀ v ∈ f11.kw, BindsW f11 v := all_nil
theorem bindw12 : ∀ v ∈ f12.kw, BindsW f12 v := all_nil
theorem bindw13 : ∀ v ∈ f13.kw, BindsW f13 v := all_nil
theorem bindw14 : ∀ v ∈ f14.kw, BindsW f14 v := all_nil
theorem bindw15 : ∀ v ∈ f15.kw, BindsW f15 v := all_nil
theorem bindw16 : ∀ v ∈ f16.kw, BindsW f16 v := all_nil
theorem bindw17 : ∀ v ∈ f17.kw, BindsW f17 v := all_nil
theorem bindw18 : ∀ v ∈ f18.kw, BindsW f18 v := all_nil
theorem bindw19 : ∀ v ∈ f19.kw, BindsW f19 v := all_nil
theorem bindw20 : ∀ v ∈ f20.kw, BindsW f20 v := all_nil
theorem bindw21 : ∀ v ∈ f21.kw, BindsW f21 v := all_nil
theorem bindw22 : ∀ v ∈ f22.kw, BindsW f22 v := all_nil
theorem bindw23 : ∀ v ∈ f23.kw, BindsW f23 v := all_nil
theorem bindw24 : ∀ v ∈ f24.kw, BindsW f24 v := all_nil
theorem bindw25 : ∀ v ∈ f25.kw, BindsW f25 v := all_nil
theorem bindwAll : ∀ f ∈ fs, ∀ v ∈ f.kw, BindsW f v := all_cons bindw0 (all_cons bindw1 (all_cons bindw2 (all_cons bindw3 (all_cons bindw4 (all_cons bindw5 (all_cons bindw6 (all_cons bindw7 (all_cons bindw8 (all_cons bindw9 (all_cons bindw10 (all_cons bindw11 (all_cons bindw12 (all_cons bindw13 (all_cons bindw14 (all_cons bindw15 (all_cons bindw16 (all_cons bindw17 (all_cons bindw18 (all_cons bindw19 (all_cons bindw20 (all_cons bindw21 (all_cons bindw22 (all_cons bindw23 (all_cons bindw24 (all_cons bindw25 (all_nil))))))))))))))))))))))))))
theorem bindAll : ∀ f ∈ fs, BindsF f := all_cons bind0 (all_cons bind1 (all_cons bind2 (all_cons bind3 (all_cons bind4 (all_cons bind5 (all_cons bind6 (all_cons bind7 (all_cons bind8 (all_cons bind9 (all_cons bind10 (all_cons bind11 (all_cons bind12 (all_cons bind13 (all_cons bind14 (all_cons bind15 (all_cons bind16 (all_cons bind17 (all_cons bind18 (all_cons bind19 (all_cons bind20 (all_cons bind21 (all_cons bind22 (all_cons bind23 (all_cons bind24 (all_cons bind25 (all_nil))))))))))))))))))))))))))
end W

set_option linter.all false
set_option maxRecDepth 100000
namespace W
open PySem Ev Lib
abbrev CL (n : Nat) : Calls := calls tb.U (fdsOf fs) n
theorem is_integer_spec (n : Nat) (d : PyData) : CL (n + 1) 0 [.d d] = .ret (.d (.bool (isInt d))) [.d d] := by
  rw [CL, calls_at (F := f0.fd) rfl]; exact isInt_run _ _ d
theorem is_natural_spec (n : Nat) (d : PyData) : CL (n + 2) 1 [.d d] = .ret (.d (.bool (isNat d))) [.d d] := by
  rw [CL, calls_at (F := f1.fd) rfl]; exact isNat_run _ _ 0 (is_integer_spec n) d
theorem told_inner_spec (n : Nat) (t : Tm) (ho : okT t = true) (hl : cnt t ≤ 10000) : CL (n + 2) 2 [.d (enc t)] = .ret (.d (.tuple (encs (innerT t)))) [.d (enc t)] := by
  rw [CL, calls_at (F := f2.fd) rfl]; exact told_run _ _ 0 0 rfl (is_integer_spec n) t ho hl
theorem term_in_spec (n : Nat) (t : Tm) (ho : okT t = true) (hl : cnt t ≤ 10000) : CL (n + 3) 3 [.d (enc t)] = .ret (.d (.bool true)) [.d (enc t)] := by
  rw [CL, calls_at (F := f3.fd) rfl]; exact term_run _ _ 2 (fun t h1 h2 => told_inner_spec n t h1 h2) t ho hl
theorem check_term_spec (n : Nat) (t : Tm) (ho : okT t = true) (hl : cnt t ≤ 10000) : CL (n + 4) 4 [.d (enc t)] = .ret (.d .none) [.d (enc t)] := by
  rw [CL, calls_at (F := f4.fd) rfl]
  exact check_run _ _ 3 1 (term_in_spec n t ho hl)
theorem spring_spec (n : Nat) (ns : List Int) (hl : ns.length ≤ 63) (p : Int) (h0 : 0 ≤ p) : ∃ w, CL (n + 1) 15 [.d (.list (ns.map .int)), .d (.int p)] = .ret (.o (.lst w)) [.d (.list (ns.map .int)), .d (.int p)] ∧ Spr w := by
  obtain ⟨w, e, h⟩ := spring_run tb.U (CL n) ns hl p h0
  exact ⟨w, by rw [CL, calls_at (F := f15.fd) rfl]; exact e, h⟩
theorem draw_spec (n : Nat) {w : List PyData} (h : Spr w) {m : Int} (h0 : 0 < m) (h1 : m < 10 ^ 60) : ∃ r w', CL (n + 1) 16 [.o (.lst w), .d (.int m)] = .ret (.d (.int r)) [.o true false (.lst w'), .d (.int m)] ∧ 0 ≤ r ∧ r < m ∧ Spr w' := by
  obtain ⟨r, w', e, h⟩ := draw_run tb.U (CL n) h h0 h1
  exact ⟨r, w', by rw [CL, calls_at (F := f16.fd) rfl]; exact e, h⟩
theorem same_spec (n : Nat) (d : PyData) (h : fineE d = true) (h1 : nd d ≤ 1000) (h2 : d.depth ≤ 64) : CL (n + 1) 17 [.d d, .d d] = .ret (.d (.bool true)) [.d d, .d d] := by
  have hr := reprE h h1 h2
  rw [CL, calls_at (F := f17.fd) rfl]
  simp only [f17, run_def, b17, Fd.enter]
  simp [leave, store, setAt, rdk, idxO, cmpO,  put, puts, keeps, keep, toVr, putAll, open_eq, Tg.to, rd, fz, callO, Ag.slots, Ag.avs, Ag.back, isA, hold, bltD, idxD, List.mapM_cons, List.mapM_nil, Option.bind, hr]
/-! ### what is no term -/
theorem pop_one {xs : List PyData} {x : PyData} : (xs ++ [x]).getLast? = some x ∧ (xs ++ [x]).dropLast = xs := by simp
/-- one turn: what is within comes in its place -/
theorem turn_in (n k : Nat) {x t0 : PyData} {ys P : List PyData} {v : Vr} (hv : freeB v = true) (e : CL (n + 2) 2 [.d x] = .ret (.d (.tuple ys)) [.d x]) (h1 : P.length + ys.length ≤ 20000) :
    whlE tb.U (CL (n + 2)) b3_c0 b3_b0 (k + 1) [.d t0, .o false false (.lst (P ++ [x])), v] = whlE tb.U (CL (n + 2)) b3_c0 b3_b0 k [.d t0, .o false false (.lst (P ++ ys)), .d (.tuple ys)] := by
  obtain ⟨L, hL⟩ : ∃ L : Int, L = P.length + 1 := ⟨_, rfl⟩
  have hz : lenD [.list (P ++ [x])] = some (.d (.int L)) := by
    have : (P ++ [x]).length ≤ sizeLine := by unfold sizeLine; simp; omega
    simp only [lenD, if_pos this]; simp [hL]
  have c1 : (0 : Int) < L := by omega
  have hz2 : P.length + ys.length ≤ sizeLine := by unfold sizeLine; omega
  rw [whlE_succ]
  simp [b3_c0, b3_b0, leave, store, setAt, rdk, idxO, cmpO,  put, puts, keeps, keep, toVr, putAll, open_eq, Tg.to, rd, fz, callO, Ag.slots, Ag.avs, Ag.back, isA, hold, bltD, idxD, List.mapM_cons, List.mapM_nil, Option.bind, hz, c1, e, hv, isNon, eq_true hz2]
theorem turn_no (n k : Nat) {x t0 : PyData} {P : List PyData} {v : Vr} (hv : freeB v = true) (e : CL (n + 2) 2 [.d x] = .ret (.d .none) [.d x]) (h1 : P.length ≤ 20000) :
    whlE tb.U (CL (n + 2)) b3_c0 b3_b0 (k + 1) [.d t0, .o false false (.lst (P ++ [x])), v] = .ok (.ret (.d (.bool false))) [.d t0, .o false false (.lst P), .d .none] := by
  obtain ⟨L, hL⟩ : ∃ L : Int, L = P.length + 1 := ⟨_, rfl⟩
  have hz : lenD [.list (P ++ [x])] = some (.d (.int L)) := by
    have : (P ++ [x]).length ≤ sizeLine := by unfold sizeLine; simp; omega
    simp only [lenD, if_pos this]; simp [hL]
  have c1 : (0 : Int) < L := by omega
  rw [whlE_succ]
  simp [b3_c0, b3_b0, leave, store, setAt, rdk, idxO, cmpO,  put, puts, keeps, keep, toVr, putAll, open_eq, Tg.to, rd, fz, callO, Ag.slots, Ag.avs, Ag.back, isA, hold, bltD, idxD, List.mapM_cons, List.mapM_nil, Option.bind, hz, c1, e, hv, isNon]
theorem inner_eq (t : Tm) : cnts (innerT t) + 1 = cnt t := by cases t <;> simp [innerT, cnts, cnt]
/-- terms ahead of it go -/
theorem drain (n : Nat) (t0 : PyData) : ∀ (N : Nat) (ws : List Tm) (k : Nat) (P : List PyData) (v : Vr), cnts ws = N → freeB v = true → oksT ws = true → P.length + N ≤ 10000 →
    ∃ v', freeB v' = true ∧ whlE tb.U (CL (n + 2)) b3_c0 b3_b0 (k + N) [.d t0, .o false false (.lst (P ++ encs ws)), v] = whlE tb.U (CL (n + 2)) b3_c0 b3_b0 k [.d t0, .o false false (.lst P), v'] := by
  intro N
  induction N with
  | zero =>
    intro ws k P v hN hv ho hP
    have := cnts_len ws
    have : ws = [] := List.length_eq_zero_iff.mp (by omega)
    subst this
    exact ⟨v, hv, by simp [encs]⟩
  | succ N ih =>
    intro ws k P v hN hv ho hP
    rcases List.eq_nil_or_concat ws with rfl | ⟨l, t, rfl⟩
    · simp [cnts] at hN
    · simp only [List.concat_eq_append] at *
      rw [oksT_app] at ho
      simp only [oksT, Bool.and_eq_true, Bool.and_true] at ho
      rw [cnts_app] at hN
      simp only [cnts] at hN
      have q1 := inner_eq t
      have q2 := cnts_app l (innerT t)
      have q5 := cnts_len l
      have q6 := cnts_len (innerT t)
      obtain ⟨v', g1, g2⟩ := ih (l ++ innerT t) k P (.d (.tuple (encs (innerT t)))) (by omega) rfl (by rw [oksT_app, ho.1, inner_ok ho.2]; rfl) (by omega)
      have e1 := encs_len l
      have e2 := encs_len (innerT t)
      have tn := turn_in n (k + N) (t0 := t0) (P := P ++ encs l) hv (told_inner_spec n t ho.2 (by omega)) (by rw [List.length_append]; omega)
      refine ⟨v', g1, ?_⟩
      rw [encs_app, show k + (N + 1) = k + N + 1 by omega]
      simp only [encs]
      rw [← List.append_assoc, tn, List.append_assoc, ← encs_app, g2]
/-- what is no term: at once, or within -/
inductive Bd : Nat → PyData → Prop
  | now {x : PyData} (h : ∀ n, CL (n + 2) 2 [.d x] = .ret (.d .none) [.d x]) : Bd 0 x
  | sub {c : Nat} {x y : PyData} {l r : List Tm} (h : ∀ n, CL (n + 2) 2 [.d x] = .ret (.d (.tuple (encs l ++ (y :: encs r)))) [.d x]) (hr : oksT r = true) (b : Bd c y) : Bd (c + 1 + l.length + cnts r) x
theorem bd_loop (n : Nat) (t0 : PyData) : ∀ {c : Nat} {x : PyData}, Bd c x → ∀ (k : Nat) (P : List PyData) (v : Vr), freeB v = true → c < k → P.length + c ≤ 5000 →
    ∃ P' v', whlE tb.U (CL (n + 2)) b3_c0 b3_b0 k [.d t0, .o false false (.lst (P ++ [x])), v] = .ok (.ret (.d (.bool false))) [.d t0, .o false false (.lst P'), v'] := by
  intro c x b
  induction b with
  | now h =>
    intro k P v hv hk hP
    obtain ⟨k, rfl⟩ : ∃ m, k = m + 1 := ⟨k - 1, by omega⟩
    exact ⟨P, .d .none, turn_no n k hv (h n) (by omega)⟩
  | @sub c x y l r h hr b ih =>
    intro k P v hv hk hP
    obtain ⟨k, rfl⟩ : ∃ m, k = m + cnts r + 1 := ⟨k - cnts r - 1, by omega⟩
    have q1 := cnts_len r
    have e1 := encs_len l
    have e2 := encs_len r
    have tn := turn_in n (k + cnts r) (t0 := t0) (P := P) hv (h n) (by simp only [List.length_append, List.length_cons]; omega)
    obtain ⟨v1, g1, g2⟩ := drain n t0 (cnts r) r k (P ++ encs l ++ [y]) (.d (.tuple (encs l ++ (y :: encs r)))) rfl rfl hr (by simp only [List.length_append, List.length_cons, List.length_nil]; omega)
    obtain ⟨P', v', g3⟩ := ih k (P ++ encs l) v1 g1 (by omega) (by rw [List.length_append]; omega)
    refine ⟨P', v', ?_⟩
    rw [tn, show P ++ (encs l ++ y :: encs r) = P ++ encs l ++ [y] ++ encs r by simp, g2, g3]
theorem bd_in (n : Nat) {c : Nat} {x : PyData} (h : Bd c x) (hc : c ≤ 5000) : CL (n + 3) 3 [.d x] = .ret (.d (.bool false)) [.d x] := by
  obtain ⟨P', v', e⟩ := bd_loop n x h WF [] .no rfl (by unfold WF; omega) (by simp; omega)
  rw [CL, calls_at (F := f3.fd) rfl]
  simp only [f3, run_def, b3, Fd.enter]
  simp only [List.nil_append] at e
  simp [leave, store, setAt, rdk, idxO, cmpO,  put, puts, keeps, keep, toVr, putAll, open_eq, Tg.to, rd, fz, callO, Ag.slots, Ag.avs, Ag.back, isA, hold, bltD, idxD, List.mapM_cons, List.mapM_nil, Option.bind, e]
theorem bd_check (n : Nat) {c : Nat} {x : PyData} (h : Bd c x) (hc : c ≤ 5000) : CL (n + 4) 4 [.d x] = .exc 1 x [.d x] := by
  have e := bd_in n h hc
  rw [CL, calls_at (F := f4.fd) rfl]
  simp only [f4, run_def, b4, Fd.enter]
  simp [leave, store, setAt, rdk, idxO, cmpO,  put, puts, keeps, keep, toVr, putAll, open_eq, Tg.to, rd, fz, callO, Ag.slots, Ag.avs, Ag.back, isA, hold, bltD, idxD, List.mapM_cons, List.mapM_nil, Option.bind, e]
end W

set_option linter.all false
set_option maxRecDepth 100000
namespace W
open PySem Ev Lib
/-! ### signs -/
theorem ints_map (ts : List Tm) : intsOf (ts.map fun t => PyData.int (cnt t)) = some (ts.map fun t => (cnt t : Int)) := by
  induction ts with
  | nil => rfl
  | cons t ts ih => simp [intsOf, ih]
theorem sum_cnts (ts : List Tm) : (ts.map fun t => (cnt t : Int)).sum = cnts ts := by
  induction ts with
  | nil => rfl
  | cons t ts ih => simp [cnts, ih]
theorem signs_in (n : Nat) (E : PyData) (ts : List Tm) (h : ∀ t ∈ ts, CL n 18 [.d (enc t)] = .ret (.d (.int (cnt t))) [.d (enc t)]) (hl : ts.length ≤ 1000) : lcE tb.U (CL n) [1] (.nm 1) .nil b18_e0 (encs ts) [] [.d E, .no] = .ok (ts.map fun t => PyData.int (cnt t)) [.d E, .no] := by
  have := lcE_fg (U := tb.U) (C := CL n) (own := [1]) (tg := .nm 1) (cs := .nil) (e := b18_e0) (f := enc) (g := fun t => .int (cnt t)) (ts := ts) (acc := []) (ρ := [.d E, .no]) (by simp only [List.length_nil]; unfold sizeLine; omega) (by
    intro t ht
    exact ⟨[.d E, .d (enc t)], [.d E, .d (enc t)], .d (.int (cnt t)), by simp [leave, store, setAt, rdk, idxO, cmpO,  put, puts, keeps, keep, toVr, putAll, open_eq, Tg.to, rd, fz, callO, Ag.slots, Ag.avs, Ag.back, isA, hold, bltD, idxD, List.mapM_cons, List.mapM_nil, Option.bind], by simp, by simp [leave, store, setAt, rdk, idxO, cmpO,  put, puts, keeps, keep, toVr, putAll, open_eq, Tg.to, rd, fz, callO, Ag.slots, Ag.avs, Ag.back, isA, hold, bltD, idxD, List.mapM_cons, List.mapM_nil, Option.bind, b18_e0, h t ht], [.d E, .d (enc t)], by simp [leave, store, setAt, rdk, idxO, cmpO,  put, puts, keeps, keep, toVr, putAll, open_eq, Tg.to, rd, fz, callO, Ag.slots, Ag.avs, Ag.back, isA, hold, bltD, idxD, List.mapM_cons, List.mapM_nil, Option.bind], by simp⟩)
  rw [encs_map]
  simpa using this
theorem signs_run (n : Nat) (x : PyData) (ts : List Tm) (h : ∀ t ∈ ts, CL n 18 [.d (enc t)] = .ret (.d (.int (cnt t))) [.d (enc t)]) (hl : ts.length ≤ 1000) : CL (n + 1) 18 [.d (.tuple (x :: encs ts))] = .ret (.d (.int (1 + (cnts ts : Nat)))) [.d (.tuple (x :: encs ts))] := by
  have e := signs_in n (.tuple (x :: encs ts)) ts h hl
  have s : sumD [.list (ts.map fun t => PyData.int (cnt t))] = some (.d (.int (cnts ts : Nat))) := by
    simp only [sumD, ints_map, Option.map_some, sum_cnts]
  obtain ⟨Z, hZ⟩ : ∃ Z : Int, Z = (cnts ts : Nat) := ⟨_, rfl⟩
  rw [← hZ] at s ⊢
  generalize (ts.map fun t => PyData.int (cnt t)) = ys at e s
  rw [CL, calls_at (F := f18.fd) rfl]
  simp only [f18, run_def, b18, Fd.enter]
  simp [leave, store, setAt, rdk, idxO, cmpO,  put, puts, keeps, keep, toVr, putAll, open_eq, Tg.to, rd, fz, callO, Ag.slots, Ag.avs, Ag.back, isA, hold, bltD, idxD, List.mapM_cons, List.mapM_nil, Option.bind, isA, slc_one, items, free, e, s]
theorem signs_spec : ∀ (D : Nat) (t : Tm), dep t ≤ D → cnt t ≤ 1000 → ∀ n, D + 1 ≤ n → CL n 18 [.d (enc t)] = .ret (.d (.int (cnt t))) [.d (enc t)] := by
  have int : ∀ (k : Int) (n : Nat), 1 ≤ n → CL n 18 [.d (enc (.int k))] = .ret (.d (.int (cnt (.int k)))) [.d (enc (.int k))] := fun k n hn => by
    obtain ⟨n, rfl⟩ : ∃ m, n = m + 1 := ⟨n - 1, by omega⟩
    rw [CL, calls_at (F := f18.fd) rfl]
    simp only [f18, run_def, b18, Fd.enter]
    simp [leave, store, setAt, rdk, idxO, cmpO,  put, puts, keeps, keep, toVr, putAll, open_eq, Tg.to, rd, fz, callO, Ag.slots, Ag.avs, Ag.back, isA, hold, bltD, idxD, List.mapM_cons, List.mapM_nil, Option.bind, enc, isA, cnt]
  intro D
  induction D with
  | zero =>
    intro t hd hc n hn
    cases t with
    | int k => exact int k n (by omega)
    | sum ts => simp [dep] at hd
    | lim t => simp [dep] at hd
    | dust t => simp [dep] at hd
  | succ D ih =>
    intro t hd hc n hn
    obtain ⟨n, rfl⟩ : ∃ m, n = m + 1 := ⟨n - 1, by omega⟩
    cases t with
    | int k => exact int k _ (by omega)
    | sum ts =>
      simp only [dep] at hd
      simp only [cnt] at hc
      have hl := cnts_len ts
      have := signs_run n (.str "sum") ts (fun t ht => ih t (by have := dep_mem ht; omega) (by have := cnt_mem ht; omega) n (by omega)) (by omega)
      rw [show (1 : Int) + (cnts ts : Nat) = ((cnt (.sum ts) : Nat) : Int) by simp only [cnt]; omega] at this
      exact this
    | lim t =>
      simp only [dep] at hd
      simp only [cnt] at hc
      have := signs_run n (.str "limit") [t] (fun t' ht => by simp at ht; subst ht; exact ih t' (by omega) (by omega) n (by omega)) (by simp)
      rw [show (1 : Int) + (cnts [t] : Nat) = ((cnt (.lim t) : Nat) : Int) by simp only [cnt, cnts]; omega] at this
      exact this
    | dust t =>
      simp only [dep] at hd
      simp only [cnt] at hc
      have := signs_run n (.str "dust") [t] (fun t' ht => by simp at ht; subst ht; exact ih t' (by omega) (by omega) n (by omega)) (by simp)
      rw [show (1 : Int) + (cnts [t] : Nat) = ((cnt (.dust t) : Nat) : Int) by simp only [cnt, cnts]; omega] at this
      exact this
/-! ### terms that are drawn -/
mutual
def bdT : Tm → Bool
  | .int k => decide (0 ≤ k ∧ k < 10 ^ 30)
  | .sum ts => decide (2 ≤ ts.length) && bdsT ts
  | .lim t => bdT t
  | .dust t => bdT t
def bdsT : List Tm → Bool
  | [] => true
  | t :: ts => bdT t && bdsT ts
end
mutual
theorem bd_ok : ∀ t : Tm, bdT t = true → okT t = true
  | .int k, h => by simp only [bdT, decide_eq_true_eq] at h; simp [okT, h.1]
  | .sum ts, h => by simp only [bdT, Bool.and_eq_true] at h; simp only [okT, Bool.and_eq_true]; exact ⟨h.1, bds_ok ts h.2⟩
  | .lim t, h => by simp only [bdT] at h; simp only [okT]; exact bd_ok t h
  | .dust t, h => by simp only [bdT] at h; simp only [okT]; exact bd_ok t h
theorem bds_ok : ∀ ts : List Tm, bdsT ts = true → oksT ts = true
  | [], _ => rfl
  | t :: ts, h => by simp only [bdsT, Bool.and_eq_true] at h; simp only [oksT, Bool.and_eq_true]; exact ⟨bd_ok t h.1, bds_ok ts h.2⟩
end
theorem bds_app : ∀ l r : List Tm, bdsT (l ++ r) = (bdsT l && bdsT r)
  | [], r => by simp [bdsT]
  | t :: l, r => by simp only [List.cons_append, bdsT, bds_app l r, Bool.and_assoc]
mutual
theorem dep_cnt : ∀ t : Tm, dep t ≤ cnt t
  | .int k => by simp [dep, cnt]
  | .sum ts => by have := deps_cnt ts; simp only [dep, cnt]; omega
  | .lim t => by have := dep_cnt t; simp only [dep, cnt]; omega
  | .dust t => by have := dep_cnt t; simp only [dep, cnt]; omega
theorem deps_cnt : ∀ ts : List Tm, deps ts ≤ cnts ts
  | [] => by simp [deps, cnts]
  | t :: ts => by have := dep_cnt t; have := deps_cnt ts; simp only [deps, cnts]; omega
end
def TmSpec (M : Nat) : Prop := ∀ (s n : Nat) (d g : Int) (w : List PyData), 1 ≤ s → s ≤ M → M + 3 ≤ n → 0 < g → g ≤ 10 ^ 30 → Spr w →
  ∃ t w', CL n 19 [.o (.lst w), .d (.int s), .d (.int d), .d (.int g)] = .ret (.d (enc t)) [.o true false (.lst w'), .d (.int s), .d (.int d), .d (.int g)] ∧ Spr w' ∧ bdT t = true ∧ cnt t ≤ s
theorem at_last {xs : List PyData} {x : PyData} : L2.atI (xs ++ [x]) (-1) = some x := by
  unfold L2.atI L2.ixN
  have h : (xs ++ [x]).length = xs.length + 1 := by simp
  rw [if_neg (by omega)]
  have e : (-1 : Int) + ((xs ++ [x]).length : Nat) = xs.length := by rw [h]; omega
  split
  · rename_i c
    have e2 : ((-1 : Int) + ((xs ++ [x]).length : Nat)).toNat = xs.length := by omega
    first
      | (rw [e2]; simp)
      | (simp [e2])
  · rename_i c
    exfalso
    omega
theorem tm_body (M n : Nat) (ih : TmSpec M) (hn : M + 3 ≤ n) (hM : M ≤ 50) (S : PyData) (d g many : Int) (g0 : 0 < g) (g1 : g ≤ 10 ^ 30) (way : Vr) (i : Int) (ts : List Tm) (l : Int) (w : List PyData) (hl : many - i ≤ l) (hi : i < many) (hlM : l ≤ M) (hw : Spr w) (hts : ts.length ≤ 10) :
    ∃ t w' , runSs tb.U (CL n) b19_b0 [.o true false (.lst w), .d S, .d (.int d), .d (.int g), way, .d (.int many), .d (.int i), .d (.int l), .o false false (.lst (encs ts))] = .ok .nx [.o true false (.lst w'), .d S, .d (.int d), .d (.int g), way, .d (.int many), .d (.int i), .d (.int (l - cnt t)), .o false false (.lst (encs (ts ++ [t])))] ∧ Spr w' ∧ bdT t = true ∧ (cnt t : Int) ≤ l - (many - i - 1) := by
  obtain ⟨n, rfl⟩ : ∃ m, n = m + 1 := ⟨n - 1, by omega⟩
  obtain ⟨r, w1, e1, r0, r1, hw1⟩ := draw_spec n hw (m := l - (many - i - 1)) (by omega) (by omega)
  obtain ⟨t, w2, e2, hw2, hb, hc⟩ := ih (1 + r).toNat (n + 1) d g w1 (by omega) (by omega) hn g0 g1 hw1
  rw [show (((1 + r).toNat : Nat) : Int) = 1 + r by omega] at e2
  have hd := dep_cnt t
  have e3 := signs_spec (dep t) t (Nat.le_refl _) (by omega) (n + 1) (by omega)
  obtain ⟨c, hcc⟩ : ∃ c : Int, c = cnt t := ⟨_, rfl⟩
  rw [← hcc] at e3
  have hz : (encs ts).length < sizeLine := by rw [encs_len]; unfold sizeLine; omega
  refine ⟨t, w2, ?_, hw2, hb, by omega⟩
  rw [encs_app, ← hcc]
  simp only [encs]
  simp [leave, store, setAt, rdk, idxO, cmpO,  put, puts, keeps, keep, toVr, putAll, open_eq, Tg.to, rd, fz, callO, Ag.slots, Ag.avs, Ag.back, isA, hold, bltD, idxD, List.mapM_cons, List.mapM_nil, Option.bind, b19_b0, e1, e2, eq_true hz, at_last, e3]
theorem tm_loop (M n : Nat) (ih : TmSpec M) (hn : M + 3 ≤ n) (hM : M ≤ 50) (S : PyData) (d g many : Int) (hmany : many ≤ 5) (g0 : 0 < g) (g1 : g ≤ 10 ^ 30) (way : Vr) : ∀ (k : Nat) (i : Int) (ts : List Tm) (l : Int) (w : List PyData) (v6 : Vr), freeB v6 = true → i + k = many → ts.length = i → (k : Int) ≤ l → l ≤ M → Spr w →
    ∃ ts' l' w' u6, forE tb.U (CL n) (.nm 6) b19_b0 (up i k) [.o true false (.lst w), .d S, .d (.int d), .d (.int g), way, .d (.int many), v6, .d (.int l), .o false false (.lst (encs ts))] = .ok .nx [.o true false (.lst w'), .d S, .d (.int d), .d (.int g), way, .d (.int many), u6, .d (.int l'), .o false false (.lst (encs (ts ++ ts')))] ∧ ts'.length = k ∧ Spr w' ∧ bdsT ts' = true ∧ (cnts ts' : Int) + l' = l ∧ 0 ≤ l'
  | 0, i, ts, l, w, v6, h6, hik, hts, hl, hlM, hw => ⟨[], l, w, v6, by simp [up], rfl, hw, rfl, by simp [cnts], by omega⟩
  | k + 1, i, ts, l, w, v6, h6, hik, hts, hl, hlM, hw => by
    obtain ⟨t, w1, e1, hw1, hb, hc⟩ := tm_body M n ih hn hM S d g many g0 g1 way i ts l w (by omega) (by omega) hlM hw (by omega)
    obtain ⟨ts', l', w', u6, e2, a1, a2, a3, a4, a5⟩ := tm_loop M n ih hn hM S d g many hmany g0 g1 way k (i + 1) (ts ++ [t]) (l - cnt t) w1 (.d (.int i)) rfl (by omega) (by rw [List.length_append]; simp; omega) (by omega) (by have := cnt_pos t; omega) hw1
    refine ⟨t :: ts', l', w', u6, ?_, by simp [a1], a2, by simp [bdsT, hb, a3], by simp only [cnts]; omega, a5⟩
    rw [up_cons, forE_cons]
    simp [leave, store, setAt, rdk, idxO, cmpO,  put, puts, keeps, keep, toVr, putAll, open_eq, Tg.to, rd, fz, callO, Ag.slots, Ag.avs, Ag.back, isA, hold, bltD, idxD, List.mapM_cons, List.mapM_nil, Option.bind, h6, e1]
    rw [e2]
    simp
end W

set_option linter.all false
set_option maxRecDepth 100000
namespace W
open PySem Ev Lib
theorem bin_addT {x : PyData} {ys : List PyData} (h : ys.length ≤ 1000) : binD .Add (.tuple [x]) (.tuple ys) = some (.d (.tuple (x :: ys))) := by
  have : 1 + ys.length ≤ sizeLine := by unfold sizeLine; omega
  simp [binD, this]
theorem pick6 {r1 r2 : Int} (h0 : 0 ≤ r1) (h1 : r1 < 10 ^ 30) (a0 : 0 ≤ r2) (a1 : r2 < 6) : ∃ k : Int, L2.atI [PyData.int 0, .int 1, .int 1, .int 2, .int 3, .int r1] r2 = some (.int k) ∧ 0 ≤ k ∧ k < 10 ^ 30 := by
  rcases (show r2 = 0 ∨ r2 = 1 ∨ r2 = 2 ∨ r2 = 3 ∨ r2 = 4 ∨ r2 = 5 by omega) with rfl | rfl | rfl | rfl | rfl | rfl
  · exact ⟨0, rfl, by omega, by omega⟩
  · exact ⟨1, rfl, by omega, by omega⟩
  · exact ⟨1, rfl, by omega, by omega⟩
  · exact ⟨2, rfl, by omega, by omega⟩
  · exact ⟨3, rfl, by omega, by omega⟩
  · exact ⟨r1, rfl, h0, h1⟩
theorem tm_leaf (m : Nat) (s d g way : Int) {w w1 : List PyData} (e1 : CL (m + 1) 16 [.o (.lst w), .d (.int 9)] = .ret (.d (.int way)) [.o true false (.lst w1), .d (.int 9)]) (hw1 : Spr w1) (g0 : 0 < g) (g1 : g ≤ 10 ^ 30) (c : s = 1 ∨ way = 0) :
    ∃ k w', CL (m + 2) 19 [.o (.lst w), .d (.int s), .d (.int d), .d (.int g)] = .ret (.d (.int k)) [.o true false (.lst w'), .d (.int s), .d (.int d), .d (.int g)] ∧ Spr w' ∧ 0 ≤ k ∧ k < 10 ^ 30 := by
  obtain ⟨r1, w2, e2, a0, a1, hw2⟩ := draw_spec m hw1 (m := g) g0 (by omega)
  obtain ⟨r2, w3, e3, b0, b1, hw3⟩ := draw_spec m hw2 (m := 6) (by decide) (by decide)
  obtain ⟨k, hk, k0, k1⟩ := pick6 a0 (by omega) b0 b1
  refine ⟨k, w3, ?_, hw3, k0, k1⟩
  rw [CL, calls_at (F := f19.fd) rfl]
  simp only [f19, run_def, b19, Fd.enter]
  by_cases c1 : s = 1
  · subst c1
    simp [leave, store, setAt, rdk, idxO, cmpO,  put, puts, keeps, keep, toVr, putAll, open_eq, Tg.to, rd, fz, callO, Ag.slots, Ag.avs, Ag.back, isA, hold, bltD, idxD, List.mapM_cons, List.mapM_nil, Option.bind, b19_s0, b19_s1, e1, e2, e3, hk]
  · have c2 : way = 0 := by omega
    subst c2
    simp [leave, store, setAt, rdk, idxO, cmpO,  put, puts, keeps, keep, toVr, putAll, open_eq, Tg.to, rd, fz, callO, Ag.slots, Ag.avs, Ag.back, isA, hold, bltD, idxD, List.mapM_cons, List.mapM_nil, Option.bind, b19_s0, b19_s1, e1, c1, e2, e3, hk]
theorem tm_spec : ∀ M, M ≤ 50 → TmSpec M := by
  intro M
  induction M with
  | zero => intro _ s n d g w h1 h2; omega
  | succ M ih0 =>
    intro hM s n d g w hs hsM hn g0 g1 hw
    have ih := ih0 (by omega)
    obtain ⟨m, rfl⟩ : ∃ m, n = m + 2 := ⟨n - 2, by omega⟩
    obtain ⟨way, w1, e1, wy0, wy1, hw1⟩ := draw_spec m hw (m := 9) (by decide) (by decide)
    obtain ⟨σ, hσ⟩ : ∃ σ : Int, σ = s := ⟨_, rfl⟩
    rw [← hσ]
    by_cases cA : σ = 1 ∨ way = 0
    · obtain ⟨k, w', e, hw', k0, k1⟩ := tm_leaf m σ d g way e1 hw1 g0 g1 cA
      refine ⟨.int k, w', e, hw', ?_, by simp only [cnt]; omega⟩
      simp only [bdT, decide_eq_true_eq]
      exact ⟨k0, k1⟩
    · have cA1 : ¬ σ = 1 := fun h => cA (.inl h)
      have cA2 : ¬ way = 0 := fun h => cA (.inr h)
      by_cases cB : 0 < d ∧ way < 6
      · obtain ⟨r, w2, e2, r0, r1, hw2⟩ := draw_spec m hw1 (m := 2) (by decide) (by decide)
        obtain ⟨t, w3, e3, hw3, hb, hc⟩ := ih (s - 1) (m + 1) (d - 1) g w2 (by omega) (by omega) (by omega) g0 g1 hw2
        rw [show ((s - 1 : Nat) : Int) = σ - 1 by omega] at e3
        rcases (show r = 0 ∨ r = 1 by omega) with rfl | rfl
        · refine ⟨.lim t, w3, ?_, hw3, by simpa [bdT] using hb, by simp only [cnt]; omega⟩
          rw [CL, calls_at (F := f19.fd) rfl]
          simp only [f19, run_def, b19, Fd.enter]
          simp [leave, store, setAt, rdk, idxO, cmpO,  put, puts, keeps, keep, toVr, putAll, open_eq, Tg.to, rd, fz, callO, Ag.slots, Ag.avs, Ag.back, isA, hold, bltD, idxD, List.mapM_cons, List.mapM_nil, Option.bind, b19_s0, b19_s1, b19_s2, e1, cA1, cA2, cB.1, cB.2, e2, e3, enc]
        · refine ⟨.dust t, w3, ?_, hw3, by simpa [bdT] using hb, by simp only [cnt]; omega⟩
          rw [CL, calls_at (F := f19.fd) rfl]
          simp only [f19, run_def, b19, Fd.enter]
          simp [leave, store, setAt, rdk, idxO, cmpO,  put, puts, keeps, keep, toVr, putAll, open_eq, Tg.to, rd, fz, callO, Ag.slots, Ag.avs, Ag.back, isA, hold, bltD, idxD, List.mapM_cons, List.mapM_nil, Option.bind, b19_s0, b19_s1, b19_s2, e1, cA1, cA2, cB.1, cB.2, e2, e3, enc]
      · have hs2 : ∀ (st : Sts) (ρ : Rho) (v5 v6 v7 v8 : Vr), ρ = [.o true false (.lst w1), .d (.int σ), .d (.int d), .d (.int g), .d (.int way), v5, v6, v7, v8] → runS tb.U (CL (m + 1)) b19_s2 ρ = .ok .nx ρ := by
          rintro st ρ v5 v6 v7 v8 rfl
          by_cases c1 : 0 < d
          · have c2 : ¬ way < 6 := fun h => cB ⟨c1, h⟩
            simp [leave, store, setAt, rdk, idxO, cmpO,  put, puts, keeps, keep, toVr, putAll, open_eq, Tg.to, rd, fz, callO, Ag.slots, Ag.avs, Ag.back, isA, hold, bltD, idxD, List.mapM_cons, List.mapM_nil, Option.bind, b19_s2, c1, c2]
          · simp [leave, store, setAt, rdk, idxO, cmpO,  put, puts, keeps, keep, toVr, putAll, open_eq, Tg.to, rd, fz, callO, Ag.slots, Ag.avs, Ag.back, isA, hold, bltD, idxD, List.mapM_cons, List.mapM_nil, Option.bind, b19_s2, c1]
        have r0 : runS tb.U (CL (m + 1)) b19_s0 [.o true false (.lst w), .d (.int σ), .d (.int d), .d (.int g), .no, .no, .no, .no, .no] = .ok .nx [.o true false (.lst w1), .d (.int σ), .d (.int d), .d (.int g), .d (.int way), .no, .no, .no, .no] := by
          simp [leave, store, setAt, rdk, idxO, cmpO,  put, puts, keeps, keep, toVr, putAll, open_eq, Tg.to, rd, fz, callO, Ag.slots, Ag.avs, Ag.back, isA, hold, bltD, idxD, List.mapM_cons, List.mapM_nil, Option.bind, b19_s0, e1]
        have r1 : runS tb.U (CL (m + 1)) b19_s1 [.o true false (.lst w1), .d (.int σ), .d (.int d), .d (.int g), .d (.int way), .no, .no, .no, .no] = .ok .nx [.o true false (.lst w1), .d (.int σ), .d (.int d), .d (.int g), .d (.int way), .no, .no, .no, .no] := by
          simp [leave, store, setAt, rdk, idxO, cmpO,  put, puts, keeps, keep, toVr, putAll, open_eq, Tg.to, rd, fz, callO, Ag.slots, Ag.avs, Ag.back, isA, hold, bltD, idxD, List.mapM_cons, List.mapM_nil, Option.bind, b19_s1, cA1, cA2]
        have r2 := hs2 .nil _ .no .no .no .no rfl
        by_cases cC : σ = 2
        · obtain ⟨r, w2, e2, r0', r1', hw2⟩ := draw_spec m hw1 (m := 3) (by decide) (by decide)
          refine ⟨.int r, w2, ?_, hw2, ?_, by simp only [cnt]; omega⟩
          · rw [CL, calls_at (F := f19.fd) rfl]
            refine run_ret (b := b19) (ρ' := [.o true false (.lst w2), .d (.int σ), .d (.int d), .d (.int g), .d (.int way), .no, .no, .no, .no]) ((run_nx r0).trans ((run_nx r1).trans ((run_nx r2).trans ?_))) rfl ⟨rfl, by decide⟩ rfl
            simp [leave, store, setAt, rdk, idxO, cmpO,  put, puts, keeps, keep, toVr, putAll, open_eq, Tg.to, rd, fz, callO, Ag.slots, Ag.avs, Ag.back, isA, hold, bltD, idxD, List.mapM_cons, List.mapM_nil, Option.bind, b19_s3, cC, e2, enc]
          · simp only [bdT, decide_eq_true_eq]; omega
        · have hmin : minD [.int 3, .int (σ - 1 - 1)] = some (.d (.int (if σ - 1 - 1 < 3 then σ - 1 - 1 else 3))) := rfl
          obtain ⟨q, hq⟩ : ∃ q : Int, q = (if σ - 1 - 1 < 3 then σ - 1 - 1 else 3) := ⟨_, rfl⟩
          have q1 : 1 ≤ q ∧ q ≤ 3 ∧ q ≤ σ - 2 := by rw [hq]; split <;> omega
          rw [← hq] at hmin
          obtain ⟨r, w2, e2, a0, a1, hw2⟩ := draw_spec m hw1 (m := q) (by omega) (by omega)
          obtain ⟨many, hmany⟩ : ∃ many : Int, many = 2 + r := ⟨_, rfl⟩
          obtain ⟨ts, l', w3, u6, e3, b1, b2, b3, b4, b5⟩ := tm_loop M (m + 1) ih (by omega) (by omega) (.int σ) d g many (by omega) g0 g1 (.d (.int way)) many.toNat 0 [] (σ - 1) w2 .no rfl (by omega) rfl (by omega) (by omega) hw2
          simp only [List.nil_append, encs] at e3
          have hlen := encs_len ts
          have sm : small many = true := by simp [small]; omega
          have r3 : runS tb.U (CL (m + 1)) b19_s3 [.o true false (.lst w1), .d (.int σ), .d (.int d), .d (.int g), .d (.int way), .no, .no, .no, .no] = .ok .nx [.o true false (.lst w1), .d (.int σ), .d (.int d), .d (.int g), .d (.int way), .no, .no, .no, .no] := by
            simp [leave, store, setAt, rdk, idxO, cmpO,  put, puts, keeps, keep, toVr, putAll, open_eq, Tg.to, rd, fz, callO, Ag.slots, Ag.avs, Ag.back, isA, hold, bltD, idxD, List.mapM_cons, List.mapM_nil, Option.bind, b19_s3, cC]
          have r4 : runS tb.U (CL (m + 1)) b19_s4 [.o true false (.lst w1), .d (.int σ), .d (.int d), .d (.int g), .d (.int way), .no, .no, .no, .no] = .ok .nx [.o true false (.lst w1), .d (.int σ), .d (.int d), .d (.int g), .d (.int way), .no, .no, .d (.int (σ - 1)), .o false false (.lst [])] := by
            simp [leave, store, setAt, rdk, idxO, cmpO,  put, puts, keeps, keep, toVr, putAll, open_eq, Tg.to, rd, fz, callO, Ag.slots, Ag.avs, Ag.back, isA, hold, bltD, idxD, List.mapM_cons, List.mapM_nil, Option.bind, b19_s4]
          have r5 : runS tb.U (CL (m + 1)) b19_s5 [.o true false (.lst w1), .d (.int σ), .d (.int d), .d (.int g), .d (.int way), .no, .no, .d (.int (σ - 1)), .o false false (.lst [])] = .ok .nx [.o true false (.lst w2), .d (.int σ), .d (.int d), .d (.int g), .d (.int way), .d (.int many), .no, .d (.int (σ - 1)), .o false false (.lst [])] := by
            simp [leave, store, setAt, rdk, idxO, cmpO,  put, puts, keeps, keep, toVr, putAll, open_eq, Tg.to, rd, fz, callO, Ag.slots, Ag.avs, Ag.back, isA, hold, bltD, idxD, List.mapM_cons, List.mapM_nil, Option.bind, b19_s5, hmin, e2, hmany]
          have r6 : runS tb.U (CL (m + 1)) b19_s6 [.o true false (.lst w2), .d (.int σ), .d (.int d), .d (.int g), .d (.int way), .d (.int many), .no, .d (.int (σ - 1)), .o false false (.lst [])] = .ok .nx [.o true false (.lst w3), .d (.int σ), .d (.int d), .d (.int g), .d (.int way), .d (.int many), u6, .d (.int l'), .o false false (.lst (encs ts))] := by
            simp [leave, store, setAt, rdk, idxO, cmpO,  put, puts, keeps, keep, toVr, putAll, open_eq, Tg.to, rd, fz, callO, Ag.slots, Ag.avs, Ag.back, isA, hold, bltD, idxD, List.mapM_cons, List.mapM_nil, Option.bind, b19_s6, sm, e3]
          have hb := bin_addT (x := .str "sum") (ys := encs ts) (by omega)
          refine ⟨.sum ts, w3, ?_, b2, ?_, by simp only [cnt]; omega⟩
          · rw [CL, calls_at (F := f19.fd) rfl]
            refine run_ret (b := b19) (ρ' := [.o true false (.lst w3), .d (.int σ), .d (.int d), .d (.int g), .d (.int way), .d (.int many), u6, .d (.int l'), .o false false (.lst (encs ts))]) ((run_nx r0).trans ((run_nx r1).trans ((run_nx r2).trans ((run_nx r3).trans ((run_nx r4).trans ((run_nx r5).trans ((run_nx r6).trans ?_))))))) rfl ⟨rfl, by decide⟩ rfl
            simp [leave, store, setAt, rdk, idxO, cmpO,  put, puts, keeps, keep, toVr, putAll, open_eq, Tg.to, rd, fz, callO, Ag.slots, Ag.avs, Ag.back, isA, hold, bltD, idxD, List.mapM_cons, List.mapM_nil, Option.bind, b19_s7, tupleD, hb, enc]
          · simp only [bdT, Bool.and_eq_true, decide_eq_true_eq]; exact ⟨by omega, b3⟩
end W

set_option linter.all false
set_option maxRecDepth 100000
namespace W
open PySem Ev Lib
/-! ### how many places -/
mutual
/-- -1: endlessly many -/
def plc : Tm → Int
  | .int k => k
  | .sum ts => plcs ts
  | .lim t => if plc t = 0 then 1 else -1
  | .dust _ => -1
def plcs : List Tm → Int
  | [] => 0
  | t :: ts => if plc t < 0 ∨ plcs ts < 0 then -1 else plc t + plcs ts
end
mutual
def iso : Tm → Int
  | .int k => k
  | .sum ts => isos ts
  | .lim t => if iso t = 0 then (if plc t = 0 then 1 else 0) else -1
  | .dust t => if iso t = 0 then 0 else -1
def isos : List Tm → Int
  | [] => 0
  | t :: ts => if iso t < 0 ∨ isos ts < 0 then -1 else iso t + isos ts
end
mutual
theorem plc_lo : ∀ t : Tm, okT t = true → -1 ≤ plc t
  | .int k, h => by simp only [okT, decide_eq_true_eq] at h; simp only [plc]; omega
  | .sum ts, h => by simp only [okT, Bool.and_eq_true] at h; simp only [plc]; exact plcs_lo ts h.2
  | .lim t, h => by simp only [plc]; split <;> omega
  | .dust t, h => by simp only [plc]; omega
theorem plcs_lo : ∀ ts : List Tm, oksT ts = true → -1 ≤ plcs ts
  | [], _ => by simp [plcs]
  | t :: ts, h => by
    simp only [oksT, Bool.and_eq_true] at h
    have h1 := plc_lo t h.1
    have h2 := plcs_lo ts h.2
    simp only [plcs]; split <;> omega
end
mutual
theorem iso_lo : ∀ t : Tm, okT t = true → -1 ≤ iso t
  | .int k, h => by simp only [okT, decide_eq_true_eq] at h; simp only [iso]; omega
  | .sum ts, h => by simp only [okT, Bool.and_eq_true] at h; simp only [iso]; exact isos_lo ts h.2
  | .lim t, h => by simp only [iso]; repeat (first | split | omega)
  | .dust t, h => by simp only [iso]; repeat (first | split | omega)
theorem isos_lo : ∀ ts : List Tm, oksT ts = true → -1 ≤ isos ts
  | [], _ => by simp [isos]
  | t :: ts, h => by
    simp only [oksT, Bool.and_eq_true] at h
    have h1 := iso_lo t h.1
    have h2 := isos_lo ts h.2
    simp only [isos]; split <;> omega
end
mutual
theorem plc_hi : ∀ t : Tm, bdT t = true → plc t ≤ cnt t * 10 ^ 30
  | .int k, h => by simp only [bdT, decide_eq_true_eq] at h; simp only [plc, cnt]; omega
  | .sum ts, h => by simp only [bdT, Bool.and_eq_true] at h; have := plcs_hi ts h.2; simp only [plc, cnt]; omega
  | .lim t, h => by simp only [plc, cnt]; split <;> omega
  | .dust t, h => by simp only [plc, cnt]; omega
theorem plcs_hi : ∀ ts : List Tm, bdsT ts = true → plcs ts ≤ cnts ts * 10 ^ 30
  | [], _ => by simp [plcs, cnts]
  | t :: ts, h => by
    simp only [bdsT, Bool.and_eq_true] at h
    have h1 := plc_hi t h.1
    have h2 := plcs_hi ts h.2
    simp only [plcs, cnts]; split <;> omega
end
mutual
theorem iso_hi : ∀ t : Tm, bdT t = true → iso t ≤ cnt t * 10 ^ 30
  | .int k, h => by simp only [bdT, decide_eq_true_eq] at h; simp only [iso, cnt]; omega
  | .sum ts, h => by simp only [bdT, Bool.and_eq_true] at h; have := isos_hi ts h.2; simp only [iso, cnt]; omega
  | .lim t, h => by simp only [iso, cnt]; repeat (first | split | omega)
  | .dust t, h => by simp only [iso, cnt]; repeat (first | split | omega)
theorem isos_hi : ∀ ts : List Tm, bdsT ts = true → isos ts ≤ cnts ts * 10 ^ 30
  | [], _ => by simp [isos, cnts]
  | t :: ts, h => by
    simp only [bdsT, Bool.and_eq_true] at h
    have h1 := iso_hi t h.1
    have h2 := isos_hi ts h.2
    simp only [isos, cnts]; split <;> omega
end
mutual
theorem iso_zero : ∀ t : Tm, okT t = true → plc t = 0 → iso t = 0
  | .int k, _, h => by simpa only [plc, iso] using h
  | .sum ts, ho, h => by simp only [okT, Bool.and_eq_true] at ho; simp only [plc] at h; simp only [iso]; exact isos_zero ts ho.2 h
  | .lim t, _, h => by simp only [plc] at h; split at h <;> omega
  | .dust t, _, h => by simp only [plc] at h; omega
theorem isos_zero : ∀ ts : List Tm, oksT ts = true → plcs ts = 0 → isos ts = 0
  | [], _, _ => by simp [isos]
  | t :: ts, ho, h => by
    simp only [oksT, Bool.and_eq_true] at ho
    simp only [plcs] at h
    split at h
    · omega
    · have h1 := iso_zero t ho.1 (by omega)
      have h2 := isos_zero ts ho.2 (by omega)
      simp only [isos, h1, h2]; simp
end
theorem plcs_zero : ∀ ts : List Tm, oksT ts = true → (plcs ts = 0 ↔ ∀ t ∈ ts, plc t = 0)
  | [], _ => by simp [plcs]
  | t :: ts, h => by
    simp only [oksT, Bool.and_eq_true] at h
    have h1 := plc_lo t h.1
    have h2 := plcs_lo ts h.2
    have ih := plcs_zero ts h.2
    simp only [List.forall_mem_cons, ← ih, plcs]
    split <;> omega
/-- numbers, None: endlessly many -/
def optD (i : Int) : PyData := if i < 0 then .none else .int i
theorem opt_in : ∀ (is : List Int), (is.map optD).any (fun x => PyData.eqv x .none) = is.any (fun i => decide (i < 0))
  | [] => rfl
  | i :: is => by
    simp only [List.map_cons, List.any_cons, opt_in is]
    congr 1
    unfold optD
    split
    · rename_i h; simp [PyData.eqv, h]
    · rename_i h; simp [PyData.eqv, h]
theorem opt_sum : ∀ (is : List Int), is.any (fun i => decide (i < 0)) = false → intsOf (is.map optD) = some is
  | [], _ => rfl
  | i :: is, h => by
    simp only [List.any_cons, Bool.or_eq_false_iff, decide_eq_false_iff_not] at h
    simp [intsOf, optD, h.1, opt_sum is h.2]
theorem sum_plcs : ∀ ts : List Tm, oksT ts = true → (((ts.map plc).any (fun i => decide (i < 0)) = true ∧ plcs ts = -1) ∨ ((ts.map plc).any (fun i => decide (i < 0)) = false ∧ plcs ts = (ts.map plc).sum ∧ 0 ≤ plcs ts))
  | [], _ => .inr ⟨rfl, rfl, by simp [plcs]⟩
  | t :: ts, h => by
    simp only [oksT, Bool.and_eq_true] at h
    have h1 := plc_lo t h.1
    simp only [List.map_cons, List.any_cons, List.sum_cons, Bool.or_eq_true, Bool.or_eq_false_iff, decide_eq_true_eq, decide_eq_false_iff_not, plcs]
    rcases sum_plcs ts h.2 with ⟨a, b⟩ | ⟨a, b, c⟩
    · exact .inl ⟨.inr a, by rw [if_pos (by omega)]⟩
    · by_cases q : plc t < 0
      · exact .inl ⟨.inl q, by rw [if_pos (by omega)]⟩
      · exact .inr ⟨⟨q, a⟩, by rw [if_neg (by omega), b], by rw [if_neg (by omega)]; omega⟩
theorem sum_isos : ∀ ts : List Tm, oksT ts = true → (((ts.map iso).any (fun i => decide (i < 0)) = true ∧ isos ts = -1) ∨ ((ts.map iso).any (fun i => decide (i < 0)) = false ∧ isos ts = (ts.map iso).sum ∧ 0 ≤ isos ts))
  | [], _ => .inr ⟨rfl, rfl, by simp [isos]⟩
  | t :: ts, h => by
    simp only [oksT, Bool.and_eq_true] at h
    have h1 := iso_lo t h.1
    simp only [List.map_cons, List.any_cons, List.sum_cons, Bool.or_eq_true, Bool.or_eq_false_iff, decide_eq_true_eq, decide_eq_false_iff_not, isos]
    rcases sum_isos ts h.2 with ⟨a, b⟩ | ⟨a, b, c⟩
    · exact .inl ⟨.inr a, by rw [if_pos (by omega)]⟩
    · by_cases q : iso t < 0
      · exact .inl ⟨.inl q, by rw [if_pos (by omega)]⟩
      · exact .inr ⟨⟨q, a⟩, by rw [if_neg (by omega), b], by rw [if_neg (by omega)]; omega⟩
theorem opts_shaped (is : List Int) : SeqAt.shaped (.list (is.map optD)) = true := by
  have h : ∀ is : List Int, PyData.canLayAll0 (is.map optD) = true ∧ PyData.depthAll (is.map optD) ≤ 0 := by
    intro is
    induction is with
    | nil => simp [PyData.canLayAll0, PyData.depthAll]
    | cons i is ih =>
      simp only [List.map_cons, PyData.canLayAll0, PyData.depthAll, Bool.and_eq_true]
      by_cases c : i < 0
      · simp [optD, c, PyData.canLay0, PyData.depth, ih.1]; omega
      · simp [optD, c, PyData.canLay0, PyData.depth, ih.1]; omega
  obtain ⟨h1, h2⟩ := h is
  have h3 := Nat.le_zero.mp h2
  simp [SeqAt.shaped, PyData.canLay0, PyData.depth, h1, h3]
theorem none_in (is : List Int) : cmpD .In .none (.list (is.map optD)) = some (is.any fun i => decide (i < 0)) := by
  rw [cmp_in_lst shaped_none (opts_shaped is), opt_in]
theorem opt_shaped (i : Int) : SeqAt.shaped (optD i) = true := by
  unfold optD; split
  · exact shaped_none
  · exact shaped_int _
theorem opt_eq0 {i : Int} : cmpD .Eq (optD i) (.int 0) = some (decide (i = 0)) := by
  rw [cmp_eq_any (opt_shaped i) (shaped_int 0)]
  unfold optD
  split
  · rename_i h; simp [PyData.eqv]; omega
  · simp [PyData.eqv]; rfl
theorem opt_ne0 {i : Int} : cmpD .NotEq (optD i) (.int 0) = some (!decide (i = 0)) := by
  rw [cmp_ne_any (opt_shaped i) (shaped_int 0)]
  unfold optD
  split
  · rename_i h; simp [PyData.eqv]; omega
  · simp [PyData.eqv]; rfl
end W

set_option linter.all false
set_option maxRecDepth 100000
namespace W
open PySem Ev Lib
theorem szn : ¬ sizeLine = 0 := by decide
/-! ### inner_terms, signs_in -/
theorem inner_terms_spec (n : Nat) (t : Tm) : CL (n + 2) 5 [.d (enc t)] = .ret (.d (.tuple (encs (innerT t)))) [.d (enc t)] := by
  rw [CL, calls_at (F := f5.fd) rfl]
  simp only [f5, run_def, b5, Fd.enter]
  cases t with
  | int k => simp [leave, store, setAt, rdk, idxO, cmpO,  put, puts, keeps, keep, toVr, putAll, open_eq, Tg.to, rd, fz, callO, Ag.slots, Ag.avs, Ag.back, isA, hold, bltD, idxD, List.mapM_cons, List.mapM_nil, Option.bind, is_integer_spec, enc, isInt, innerT, encs]
  | sum ts => simp [leave, store, setAt, rdk, idxO, cmpO,  put, puts, keeps, keep, toVr, putAll, open_eq, Tg.to, rd, fz, callO, Ag.slots, Ag.avs, Ag.back, isA, hold, bltD, idxD, List.mapM_cons, List.mapM_nil, Option.bind, is_integer_spec, enc, isInt, innerT, encs, slc_one]
  | lim t => simp [leave, store, setAt, rdk, idxO, cmpO,  put, puts, keeps, keep, toVr, putAll, open_eq, Tg.to, rd, fz, callO, Ag.slots, Ag.avs, Ag.back, isA, hold, bltD, idxD, List.mapM_cons, List.mapM_nil, Option.bind, is_integer_spec, enc, isInt, innerT, encs, slc_one]
  | dust t => simp [leave, store, setAt, rdk, idxO, cmpO,  put, puts, keeps, keep, toVr, putAll, open_eq, Tg.to, rd, fz, callO, Ag.slots, Ag.avs, Ag.back, isA, hold, bltD, idxD, List.mapM_cons, List.mapM_nil, Option.bind, is_integer_spec, enc, isInt, innerT, encs, slc_one]
theorem inner_dep {t s : Tm} (h : s ∈ innerT t) : dep s < dep t := by
  cases t with
  | int k => simp [innerT] at h
  | sum ts => simp only [innerT] at h; have := dep_mem h; simp only [dep]; omega
  | lim t => simp only [innerT, List.mem_singleton] at h; subst h; simp only [dep]; omega
  | dust t => simp only [innerT, List.mem_singleton] at h; subst h; simp only [dep]; omega
theorem inner_cm {t s : Tm} (h : s ∈ innerT t) : cnt s < cnt t := by
  have := cnt_mem h
  have := inner_eq t
  omega
theorem inner_okm {t s : Tm} (ho : okT t = true) (h : s ∈ innerT t) : okT s = true := ok_mem (inner_ok ho) h
theorem signsIn_spec : ∀ (D : Nat) (t : Tm), dep t ≤ D → cnt t ≤ 1000 → ∀ n, D + 3 ≤ n → CL n 6 [.d (enc t)] = .ret (.d (.int (cnt t))) [.d (enc t)] := by
  intro D
  induction D with
  | zero =>
    intro t hd hc n hn
    obtain ⟨n, rfl⟩ : ∃ m, n = m + 3 := ⟨n - 3, by omega⟩
    cases t with
    | int k =>
      have e := inner_terms_spec n (.int k)
      simp only [enc, innerT, encs] at e
      rw [CL, calls_at (F := f6.fd) rfl]
      simp only [f6, run_def, b6, Fd.enter]
      simp [leave, store, setAt, rdk, idxO, cmpO,  put, puts, keeps, keep, toVr, putAll, open_eq, Tg.to, rd, fz, callO, Ag.slots, Ag.avs, Ag.back, isA, hold, bltD, idxD, List.mapM_cons, List.mapM_nil, Option.bind, enc, e, items, free, lcE_nil, sumD, intsOf, cnt]
    | sum ts => simp [dep] at hd
    | lim t => simp [dep] at hd
    | dust t => simp [dep] at hd
  | succ D ih =>
    intro t hd hc n hn
    obtain ⟨n, rfl⟩ : ∃ m, n = m + 3 := ⟨n - 3, by omega⟩
    have e0 := inner_terms_spec n t
    have q := inner_eq t
    have ql := cnts_len (innerT t)
    have e := lcE_fg (U := tb.U) (C := CL (n + 2)) (own := [1]) (tg := .nm 1) (cs := .nil) (e := b6_e0) (f := enc) (g := fun t => .int (cnt t)) (ts := innerT t) (acc := []) (ρ := [.d (enc t), .no]) (by simp only [List.length_nil]; unfold sizeLine; omega) (by
      intro s hs
      have h := ih s (by have := inner_dep hs; omega) (by have := inner_cm hs; omega) (n + 2) (by omega)
      exact ⟨[.d (enc t), .d (enc s)], [.d (enc t), .d (enc s)], .d (.int (cnt s)), by simp [leave, store, setAt, rdk, idxO, cmpO,  put, puts, keeps, keep, toVr, putAll, open_eq, Tg.to, rd, fz, callO, Ag.slots, Ag.avs, Ag.back, isA, hold, bltD, idxD, List.mapM_cons, List.mapM_nil, Option.bind], by simp, by simp [leave, store, setAt, rdk, idxO, cmpO,  put, puts, keeps, keep, toVr, putAll, open_eq, Tg.to, rd, fz, callO, Ag.slots, Ag.avs, Ag.back, isA, hold, bltD, idxD, List.mapM_cons, List.mapM_nil, Option.bind, b6_e0, h], [.d (enc t), .d (enc s)], by simp [leave, store, setAt, rdk, idxO, cmpO,  put, puts, keeps, keep, toVr, putAll, open_eq, Tg.to, rd, fz, callO, Ag.slots, Ag.avs, Ag.back, isA, hold, bltD, idxD, List.mapM_cons, List.mapM_nil, Option.bind], by simp⟩)
    rw [← encs_map] at e
    have s : sumD [.list ((innerT t).map fun t => PyData.int (cnt t))] = some (.d (.int (cnts (innerT t) : Nat))) := by
      simp only [sumD, ints_map, Option.map_some, sum_cnts]
    obtain ⟨Z, hZ⟩ : ∃ Z : Int, Z = (cnts (innerT t) : Nat) := ⟨_, rfl⟩
    have hZ2 : ((cnt t : Nat) : Int) = 1 + Z := by omega
    rw [hZ2]
    rw [← hZ] at s
    simp only [List.nil_append] at e
    generalize ((innerT t).map fun t => PyData.int (cnt t)) = ys at e s
    generalize encs (innerT t) = xs at *
    rw [CL, calls_at (F := f6.fd) rfl]
    simp only [f6, run_def, b6, Fd.enter]
    simp [leave, store, setAt, rdk, idxO, cmpO,  put, puts, keeps, keep, toVr, putAll, open_eq, Tg.to, rd, fz, callO, Ag.slots, Ag.avs, Ag.back, isA, hold, bltD, idxD, List.mapM_cons, List.mapM_nil, Option.bind, e0, items, free, e, s]
/-! ### has_place_in -/
theorem glob0 : tb.U.dat[0]? = some powersD := rfl
theorem in_pow : cmpD .In (.str "limit") powersD = some true ∧ cmpD .In (.str "dust") powersD = some true ∧ cmpD .In (.str "sum") powersD = some false := by
  refine ⟨?_, ?_, ?_⟩ <;> (rw [in_powers (by decide +kernel)]; decide +kernel)
theorem hp_spec : ∀ (D : Nat) (t : Tm), dep t ≤ D → okT t = true → cnt t ≤ 1000 → ∀ n, D + 3 ≤ n → CL n 7 [.d (enc t)] = .ret (.d (.bool (!decide (plc t = 0)))) [.d (enc t)] := by
  obtain ⟨p1, p2, p3⟩ := in_pow
  have int : ∀ (k : Int) (n : Nat), 0 ≤ k → CL (n + 3) 7 [.d (enc (.int k))] = .ret (.d (.bool (!decide (plc (.int k) = 0)))) [.d (enc (.int k))] := fun k n hk => by
    rw [CL, calls_at (F := f7.fd) rfl]
    simp only [f7, run_def, b7, Fd.enter]
    have e : decide (0 < k) = !decide (k = 0) := by
      by_cases c : k = 0
      · simp [c]
      · simp [c]; omega
    simp [leave, store, setAt, rdk, idxO, cmpO,  put, puts, keeps, keep, toVr, putAll, open_eq, Tg.to, rd, fz, callO, Ag.slots, Ag.avs, Ag.back, isA, hold, bltD, idxD, List.mapM_cons, List.mapM_nil, Option.bind, is_natural_spec, enc, isNat, hk, plc, e]
    rfl
  intro D
  induction D with
  | zero =>
    intro t hd ho hc n hn
    obtain ⟨n, rfl⟩ : ∃ m, n = m + 3 := ⟨n - 3, by omega⟩
    cases t with
    | int k => simp only [okT, decide_eq_true_eq] at ho; exact int k n ho
    | sum ts => simp [dep] at hd
    | lim t => simp [dep] at hd
    | dust t => simp [dep] at hd
  | succ D ih =>
    intro t hd ho hc n hn
    obtain ⟨n, rfl⟩ : ∃ m, n = m + 3 := ⟨n - 3, by omega⟩
    cases t with
    | int k => simp only [okT, decide_eq_true_eq] at ho; exact int k n ho
    | lim t =>
      have : plc (.lim t) ≠ 0 := by simp only [plc]; split <;> omega
      rw [CL, calls_at (F := f7.fd) rfl]
      simp only [f7, run_def, b7, Fd.enter]
      simp [leave, store, setAt, rdk, idxO, cmpO,  put, puts, keeps, keep, toVr, putAll, open_eq, Tg.to, rd, fz, callO, Ag.slots, Ag.avs, Ag.back, isA, hold, bltD, idxD, List.mapM_cons, List.mapM_nil, Option.bind, is_natural_spec, enc, isNat, glob0, p1, this]
    | dust t =>
      have : plc (.dust t) ≠ 0 := by simp only [plc]; omega
      rw [CL, calls_at (F := f7.fd) rfl]
      simp only [f7, run_def, b7, Fd.enter]
      simp [leave, store, setAt, rdk, idxO, cmpO,  put, puts, keeps, keep, toVr, putAll, open_eq, Tg.to, rd, fz, callO, Ag.slots, Ag.avs, Ag.back, isA, hold, bltD, idxD, List.mapM_cons, List.mapM_nil, Option.bind, is_natural_spec, enc, isNat, glob0, p2, this]
    | sum ts =>
      simp only [dep] at hd
      simp only [cnt] at hc
      simp only [okT, Bool.and_eq_true] at ho
      have ql := cnts_len ts
      have e := lcE_fg (U := tb.U) (C := CL (n + 2)) (own := [1]) (tg := .nm 1) (cs := .nil) (e := b7_e0) (f := enc) (g := fun t => .bool (!decide (plc t = 0))) (ts := ts) (acc := []) (ρ := [.d (enc (.sum ts)), .no]) (by simp only [List.length_nil]; unfold sizeLine; omega) (by
        intro s hs
        have h := ih s (by have := dep_mem hs; omega) (ok_mem ho.2 hs) (by have := cnt_mem hs; omega) (n + 2) (by omega)
        exact ⟨[.d (enc (.sum ts)), .d (enc s)], [.d (enc (.sum ts)), .d (enc s)], .d (.bool (!decide (plc s = 0))), by simp [leave, store, setAt, rdk, idxO, cmpO,  put, puts, keeps, keep, toVr, putAll, open_eq, Tg.to, rd, fz, callO, Ag.slots, Ag.avs, Ag.back, isA, hold, bltD, idxD, List.mapM_cons, List.mapM_nil, Option.bind], by simp, by simp [leave, store, setAt, rdk, idxO, cmpO,  put, puts, keeps, keep, toVr, putAll, open_eq, Tg.to, rd, fz, callO, Ag.slots, Ag.avs, Ag.back, isA, hold, bltD, idxD, List.mapM_cons, List.mapM_nil, Option.bind, b7_e0, h], [.d (enc (.sum ts)), .d (enc s)], by simp [leave, store, setAt, rdk, idxO, cmpO,  put, puts, keeps, keep, toVr, putAll, open_eq, Tg.to, rd, fz, callO, Ag.slots, Ag.avs, Ag.back, isA, hold, bltD, idxD, List.mapM_cons, List.mapM_nil, Option.bind], by simp⟩)
      rw [← encs_map] at e
      have a : anyD [.list (ts.map fun t => PyData.bool (!decide (plc t = 0)))] = some (.d (.bool (!decide (plcs ts = 0)))) := by
        simp only [anyD, bools_map, Option.map_some, List.any_map]
        congr 3
        have := plcs_zero ts ho.2
        by_cases c : plcs ts = 0
        · simp only [c, decide_true, Bool.not_true, List.any_eq_false]
          intro t ht
          simp [this.mp c t ht]
        · simp only [c, decide_false, Bool.not_false, List.any_eq_true]
          have q : ¬ ∀ t ∈ ts, plc t = 0 := fun h => c (this.mpr h)
          simp only [Classical.not_forall] at q
          obtain ⟨t, ht, q⟩ := q
          exact ⟨t, ht, by simp [q]⟩
      simp only [List.nil_append] at e
      generalize (ts.map fun t => PyData.bool (!decide (plc t = 0))) = ys at e a
      rw [CL, calls_at (F := f7.fd) rfl]
      simp only [f7, run_def, b7, Fd.enter]
      simp only [enc] at *
      generalize encs ts = xs at *
      simp [leave, store, setAt, rdk, idxO, cmpO,  put, puts, keeps, keep, toVr, putAll, open_eq, Tg.to, rd, fz, callO, Ag.slots, Ag.avs, Ag.back, isA, hold, bltD, idxD, List.mapM_cons, List.mapM_nil, Option.bind, is_natural_spec, isNat, glob0, p3, slc_one, items, free, e, a, plc]
      rfl
/-! ### how_many_places_in -/
theorem p_spec : ∀ (D : Nat) (t : Tm), dep t ≤ D → okT t = true → cnt t ≤ 1000 → ∀ n, D + 3 ≤ n → CL n 8 [.d (enc t)] = .ret (.d (optD (plc t))) [.d (enc t)] := by
  obtain ⟨l1, l2, l3, l4, l5, l6⟩ := litT
  have int : ∀ (k : Int) (n : Nat), 0 ≤ k → CL (n + 3) 8 [.d (enc (.int k))] = .ret (.d (optD (plc (.int k)))) [.d (enc (.int k))] := fun k n hk => by
    rw [CL, calls_at (F := f8.fd) rfl]
    simp only [f8, run_def, b8, Fd.enter]
    have : ¬ k < 0 := by omega
    simp [leave, store, setAt, rdk, idxO, cmpO,  put, puts, keeps, keep, toVr, putAll, open_eq, Tg.to, rd, fz, callO, Ag.slots, Ag.avs, Ag.back, isA, hold, bltD, idxD, List.mapM_cons, List.mapM_nil, Option.bind, is_natural_spec, enc, isNat, hk, plc, optD, this]
  intro D
  induction D with
  | zero =>
    intro t hd ho hc n hn
    obtain ⟨n, rfl⟩ : ∃ m, n = m + 3 := ⟨n - 3, by omega⟩
    cases t with
    | int k => simp only [okT, decide_eq_true_eq] at ho; exact int k n ho
    | sum ts => simp [dep] at hd
    | lim t => simp [dep] at hd
    | dust t => simp [dep] at hd
  | succ D ih =>
    intro t hd ho hc n hn
    obtain ⟨n, rfl⟩ : ∃ m, n = m + 3 := ⟨n - 3, by omega⟩
    cases t with
    | int k => simp only [okT, decide_eq_true_eq] at ho; exact int k n ho
    | lim t =>
      simp only [dep] at hd
      simp only [cnt] at hc
      simp only [okT] at ho
      have h := ih t (by omega) ho (by omega) (n + 2) (by omega)
      have e : lcE tb.U (CL (n + 2)) [2] (.nm 2) .nil b8_e0 [enc t] [] [.d (enc (.lim t)), .no, .no] = .ok [optD (plc t)] [.d (enc (.lim t)), .no, .no] := by
        rw [lcE_cons]; simp [leave, store, setAt, rdk, idxO, cmpO,  put, puts, keeps, keep, toVr, putAll, open_eq, Tg.to, rd, fz, callO, Ag.slots, Ag.avs, Ag.back, isA, hold, bltD, idxD, List.mapM_cons, List.mapM_nil, Option.bind, b8_e0, h, lcE_nil, szn]
      have z := opt_eq0 (i := plc t)
      simp only [enc] at e
      generalize hp : optD (plc t) = P at *
      rw [CL, calls_at (F := f8.fd) rfl]
      simp only [f8, run_def, b8, Fd.enter]
      by_cases c : plc t = 0
      · simp [leave, store, setAt, rdk, idxO, cmpO,  put, puts, keeps, keep, toVr, putAll, open_eq, Tg.to, rd, fz, callO, Ag.slots, Ag.avs, Ag.back, isA, hold, bltD, idxD, List.mapM_cons, List.mapM_nil, Option.bind, is_natural_spec, enc, isNat, l5, slc_one, items, free, e, z, c, plc, optD]
      · simp [leave, store, setAt, rdk, idxO, cmpO,  put, puts, keeps, keep, toVr, putAll, open_eq, Tg.to, rd, fz, callO, Ag.slots, Ag.avs, Ag.back, isA, hold, bltD, idxD, List.mapM_cons, List.mapM_nil, Option.bind, is_natural_spec, enc, isNat, l5, slc_one, items, free, e, z, c, plc, optD]
    | dust t =>
      rw [CL, calls_at (F := f8.fd) rfl]
      simp only [f8, run_def, b8, Fd.enter]
      simp [leave, store, setAt, rdk, idxO, cmpO,  put, puts, keeps, keep, toVr, putAll, open_eq, Tg.to, rd, fz, callO, Ag.slots, Ag.avs, Ag.back, isA, hold, bltD, idxD, List.mapM_cons, List.mapM_nil, Option.bind, is_natural_spec, enc, isNat, plc, optD]
    | sum ts =>
      have d1 : (("sum" : Str) == "dust") = false := by decide +kernel
      have d2 : (("sum" : Str) == "limit") = false := by decide +kernel
      simp only [dep] at hd
      simp only [cnt] at hc
      simp only [okT, Bool.and_eq_true] at ho
      have ql := cnts_len ts
      have e := lcE_fg (U := tb.U) (C := CL (n + 2)) (own := [2]) (tg := .nm 2) (cs := .nil) (e := b8_e0) (f := enc) (g := fun t => optD (plc t)) (ts := ts) (acc := []) (ρ := [.d (enc (.sum ts)), .no, .no]) (by simp only [List.length_nil]; unfold sizeLine; omega) (by
        intro s hs
        have h := ih s (by have := dep_mem hs; omega) (ok_mem ho.2 hs) (by have := cnt_mem hs; omega) (n + 2) (by omega)
        exact ⟨[.d (enc (.sum ts)), .no, .d (enc s)], [.d (enc (.sum ts)), .no, .d (enc s)], .d (optD (plc s)), by simp [leave, store, setAt, rdk, idxO, cmpO,  put, puts, keeps, keep, toVr, putAll, open_eq, Tg.to, rd, fz, callO, Ag.slots, Ag.avs, Ag.back, isA, hold, bltD, idxD, List.mapM_cons, List.mapM_nil, Option.bind], by simp, by simp [leave, store, setAt, rdk, idxO, cmpO,  put, puts, keeps, keep, toVr, putAll, open_eq, Tg.to, rd, fz, callO, Ag.slots, Ag.avs, Ag.back, isA, hold, bltD, idxD, List.mapM_cons, List.mapM_nil, Option.bind, b8_e0, h], [.d (enc (.sum ts)), .no, .d (enc s)], by simp [leave, store, setAt, rdk, idxO, cmpO,  put, puts, keeps, keep, toVr, putAll, open_eq, Tg.to, rd, fz, callO, Ag.slots, Ag.avs, Ag.back, isA, hold, bltD, idxD, List.mapM_cons, List.mapM_nil, Option.bind], by simp⟩)
      rw [← encs_map, show (ts.map fun t => optD (plc t)) = (ts.map plc).map optD by simp] at e
      have i := none_in (ts.map plc)
      have s := opt_sum (ts.map plc)
      simp only [List.nil_append] at e
      have q := sum_plcs ts ho.2
      generalize ts.map plc = ps at *
      generalize hys : ps.map optD = ys at *
      rw [CL, calls_at (F := f8.fd) rfl]
      simp only [f8, run_def, b8, Fd.enter]
      simp only [enc] at *
      generalize encs ts = xs at *
      rcases q with ⟨a, b⟩ | ⟨a, b, c⟩
      · simp [leave, store, setAt, rdk, idxO, cmpO,  put, puts, keeps, keep, toVr, putAll, open_eq, Tg.to, rd, fz, callO, Ag.slots, Ag.avs, Ag.back, isA, hold, bltD, idxD, List.mapM_cons, List.mapM_nil, Option.bind, is_natural_spec, isNat, d1, d2, slc_one, items, free, e, i, a, plc, b, optD]
      · have sd : sumD [.list ys] = some (.d (.int (plcs ts))) := by simp only [sumD, s a, Option.map_some, b]
        have c' : ¬ plcs ts < 0 := by omega
        simp [leave, store, setAt, rdk, idxO, cmpO,  put, puts, keeps, keep, toVr, putAll, open_eq, Tg.to, rd, fz, callO, Ag.slots, Ag.avs, Ag.back, isA, hold, bltD, idxD, List.mapM_cons, List.mapM_nil, Option.bind, is_natural_spec, isNat, d1, d2, slc_one, items, free, e, i, a, sd, plc, c', optD]
/-! ### how_many_isolated_in -/
theorem i_spec : ∀ (D : Nat) (t : Tm), dep t ≤ D → okT t = true → cnt t ≤ 1000 → ∀ n, D + 4 ≤ n → CL n 9 [.d (enc t)] = .ret (.d (optD (iso t))) [.d (enc t)] := by
  obtain ⟨l1, l2, l3, l4, l5, l6⟩ := litT
  have int : ∀ (k : Int) (n : Nat), 0 ≤ k → CL (n + 3) 9 [.d (enc (.int k))] = .ret (.d (optD (iso (.int k)))) [.d (enc (.int k))] := fun k n hk => by
    rw [CL, calls_at (F := f9.fd) rfl]
    simp only [f9, run_def, b9, Fd.enter]
    have : ¬ k < 0 := by omega
    simp [leave, store, setAt, rdk, idxO, cmpO,  put, puts, keeps, keep, toVr, putAll, open_eq, Tg.to, rd, fz, callO, Ag.slots, Ag.avs, Ag.back, isA, hold, bltD, idxD, List.mapM_cons, List.mapM_nil, Option.bind, is_natural_spec, enc, isNat, hk, iso, optD, this]
  intro D
  induction D with
  | zero =>
    intro t hd ho hc n hn
    obtain ⟨n, rfl⟩ : ∃ m, n = m + 3 := ⟨n - 3, by omega⟩
    cases t with
    | int k => simp only [okT, decide_eq_true_eq] at ho; exact int k n ho
    | sum ts => simp [dep] at hd
    | lim t => simp [dep] at hd
    | dust t => simp [dep] at hd
  | succ D ih =>
    intro t hd ho hc n hn
    obtain ⟨n, rfl⟩ : ∃ m, n = m + 4 := ⟨n - 4, by omega⟩
    cases t with
    | int k => simp only [okT, decide_eq_true_eq] at ho; exact int k (n + 1) ho
    | lim t =>
      simp only [dep] at hd
      simp only [cnt] at hc
      simp only [okT] at ho
      have h := ih t (by omega) ho (by omega) (n + 3) (by omega)
      have g := hp_spec (dep t) t (Nat.le_refl _) ho (by omega) (n + 3) (by omega)
      have e : lcE tb.U (CL (n + 3)) [2] (.nm 2) .nil b9_e0 [enc t] [] [.d (enc (.lim t)), .no, .no] = .ok [optD (iso t)] [.d (enc (.lim t)), .no, .no] := by
        rw [lcE_cons]; simp [leave, store, setAt, rdk, idxO, cmpO,  put, puts, keeps, keep, toVr, putAll, open_eq, Tg.to, rd, fz, callO, Ag.slots, Ag.avs, Ag.back, isA, hold, bltD, idxD, List.mapM_cons, List.mapM_nil, Option.bind, b9_e0, h, lcE_nil, szn]
      have z := opt_ne0 (i := iso t)
      simp only [enc] at e
      generalize hp : optD (iso t) = P at *
      rw [CL, calls_at (F := f9.fd) rfl]
      simp only [f9, run_def, b9, Fd.enter]
      by_cases c : iso t = 0
      · by_cases c2 : plc t = 0
        · simp [leave, store, setAt, rdk, idxO, cmpO,  put, puts, keeps, keep, toVr, putAll, open_eq, Tg.to, rd, fz, callO, Ag.slots, Ag.avs, Ag.back, isA, hold, bltD, idxD, List.mapM_cons, List.mapM_nil, Option.bind, is_natural_spec, enc, isNat, l1, slc_one, items, free, e, z, c, c2, g, iso, optD]
        · simp [leave, store, setAt, rdk, idxO, cmpO,  put, puts, keeps, keep, toVr, putAll, open_eq, Tg.to, rd, fz, callO, Ag.slots, Ag.avs, Ag.back, isA, hold, bltD, idxD, List.mapM_cons, List.mapM_nil, Option.bind, is_natural_spec, enc, isNat, l1, slc_one, items, free, e, z, c, c2, g, iso, optD]
      · simp [leave, store, setAt, rdk, idxO, cmpO,  put, puts, keeps, keep, toVr, putAll, open_eq, Tg.to, rd, fz, callO, Ag.slots, Ag.avs, Ag.back, isA, hold, bltD, idxD, List.mapM_cons, List.mapM_nil, Option.bind, is_natural_spec, enc, isNat, l1, slc_one, items, free, e, z, c, iso, optD]
    | dust t =>
      simp only [dep] at hd
      simp only [cnt] at hc
      simp only [okT] at ho
      have h := ih t (by omega) ho (by omega) (n + 3) (by omega)
      have e : lcE tb.U (CL (n + 3)) [2] (.nm 2) .nil b9_e0 [enc t] [] [.d (enc (.dust t)), .no, .no] = .ok [optD (iso t)] [.d (enc (.dust t)), .no, .no] := by
        rw [lcE_cons]; simp [leave, store, setAt, rdk, idxO, cmpO,  put, puts, keeps, keep, toVr, putAll, open_eq, Tg.to, rd, fz, callO, Ag.slots, Ag.avs, Ag.back, isA, hold, bltD, idxD, List.mapM_cons, List.mapM_nil, Option.bind, b9_e0, h, lcE_nil, szn]
      have z := opt_ne0 (i := iso t)
      simp only [enc] at e
      generalize hp : optD (iso t) = P at *
      rw [CL, calls_at (F := f9.fd) rfl]
      simp only [f9, run_def, b9, Fd.enter]
      by_cases c : iso t = 0
      · simp [leave, store, setAt, rdk, idxO, cmpO,  put, puts, keeps, keep, toVr, putAll, open_eq, Tg.to, rd, fz, callO, Ag.slots, Ag.avs, Ag.back, isA, hold, bltD, idxD, List.mapM_cons, List.mapM_nil, Option.bind, is_natural_spec, enc, isNat, l2, l6, slc_one, items, free, e, z, c, iso, optD]
      · simp [leave, store, setAt, rdk, idxO, cmpO,  put, puts, keeps, keep, toVr, putAll, open_eq, Tg.to, rd, fz, callO, Ag.slots, Ag.avs, Ag.back, isA, hold, bltD, idxD, List.mapM_cons, List.mapM_nil, Option.bind, is_natural_spec, enc, isNat, l2, slc_one, items, free, e, z, c, iso, optD]
    | sum ts =>
      simp only [dep] at hd
      simp only [cnt] at hc
      simp only [okT, Bool.and_eq_true] at ho
      have ql := cnts_len ts
      have e := lcE_fg (U := tb.U) (C := CL (n + 3)) (own := [2]) (tg := .nm 2) (cs := .nil) (e := b9_e0) (f := enc) (g := fun t => optD (iso t)) (ts := ts) (acc := []) (ρ := [.d (enc (.sum ts)), .no, .no]) (by simp only [List.length_nil]; unfold sizeLine; omega) (by
        intro s hs
        have h := ih s (by have := dep_mem hs; omega) (ok_mem ho.2 hs) (by have := cnt_mem hs; omega) (n + 3) (by omega)
        exact ⟨[.d (enc (.sum ts)), .no, .d (enc s)], [.d (enc (.sum ts)), .no, .d (enc s)], .d (optD (iso s)), by simp [leave, store, setAt, rdk, idxO, cmpO,  put, puts, keeps, keep, toVr, putAll, open_eq, Tg.to, rd, fz, callO, Ag.slots, Ag.avs, Ag.back, isA, hold, bltD, idxD, List.mapM_cons, List.mapM_nil, Option.bind], by simp, by simp [leave, store, setAt, rdk, idxO, cmpO,  put, puts, keeps, keep, toVr, putAll, open_eq, Tg.to, rd, fz, callO, Ag.slots, Ag.avs, Ag.back, isA, hold, bltD, idxD, List.mapM_cons, List.mapM_nil, Option.bind, b9_e0, h], [.d (enc (.sum ts)), .no, .d (enc s)], by simp [leave, store, setAt, rdk, idxO, cmpO,  put, puts, keeps, keep, toVr, putAll, open_eq, Tg.to, rd, fz, callO, Ag.slots, Ag.avs, Ag.back, isA, hold, bltD, idxD, List.mapM_cons, List.mapM_nil, Option.bind], by simp⟩)
      rw [← encs_map, show (ts.map fun t => optD (iso t)) = (ts.map iso).map optD by simp] at e
      have i := none_in (ts.map iso)
      have s := opt_sum (ts.map iso)
      simp only [List.nil_append] at e
      have q := sum_isos ts ho.2
      generalize ts.map iso = ps at *
      generalize hys : ps.map optD = ys at *
      rw [CL, calls_at (F := f9.fd) rfl]
      simp only [f9, run_def, b9, Fd.enter]
      simp only [enc] at *
      generalize encs ts = xs at *
      rcases q with ⟨a, b⟩ | ⟨a, b, c⟩
      · simp [leave, store, setAt, rdk, idxO, cmpO,  put, puts, keeps, keep, toVr, putAll, open_eq, Tg.to, rd, fz, callO, Ag.slots, Ag.avs, Ag.back, isA, hold, bltD, idxD, List.mapM_cons, List.mapM_nil, Option.bind, is_natural_spec, isNat, slc_one, items, free, e, i, a, iso, b, optD]
      · have sd : sumD [.list ys] = some (.d (.int (isos ts))) := by simp only [sumD, s a, Option.map_some, b]
        have c' : ¬ isos ts < 0 := by omega
        simp [leave, store, setAt, rdk, idxO, cmpO,  put, puts, keeps, keep, toVr, putAll, open_eq, Tg.to, rd, fz, callO, Ag.slots, Ag.avs, Ag.back, isA, hold, bltD, idxD, List.mapM_cons, List.mapM_nil, Option.bind, is_natural_spec, isNat, slc_one, items, free, e, i, a, sd, iso, c', optD]
end W

set_option linter.all false
set_option maxRecDepth 100000
namespace W
open PySem Ev Lib
/-! ### _law_count -/
def cntD (t : Tm) : PyData := .list [.int (plc t), .int (iso t)]
theorem ints_shaped (is : List Int) : SeqAt.shaped (.list (is.map PyData.int)) = true := by
  have h : ∀ is : List Int, PyData.canLayAll0 (is.map PyData.int) = true ∧ PyData.depthAll (is.map PyData.int) ≤ 0 := by
    intro is
    induction is with
    | nil => simp [PyData.canLayAll0, PyData.depthAll]
    | cons i is ih =>
      simp only [List.map_cons, PyData.canLayAll0, PyData.depthAll, Bool.and_eq_true]
      simp [PyData.canLay0, PyData.depth, ih.1]; omega
  obtain ⟨h1, h2⟩ := h is
  have h3 := Nat.le_zero.mp h2
  simp [SeqAt.shaped, PyData.canLay0, PyData.depth, h1, h3]
theorem any_minus : ∀ is : List Int, (∀ i ∈ is, -1 ≤ i) → (is.map PyData.int).any (fun x => PyData.eqv x (.int (-1))) = is.any fun i => decide (i < 0)
  | [], _ => rfl
  | i :: is, h => by
    have h1 := h i (List.mem_cons_self ..)
    simp only [List.map_cons, List.any_cons, any_minus is fun j hj => h j (List.mem_cons_of_mem _ hj), eqv_int]
    congr 1
    by_cases c : i < 0
    · have : i = -1 := by omega
      subst this; rfl
    · have : ¬ i = -1 := by omega
      simp [c, this]
theorem minus_in (is : List Int) (h : ∀ i ∈ is, -1 ≤ i) : cmpD .In (.int (-1)) (.list (is.map PyData.int)) = some (is.any fun i => decide (i < 0)) := by
  rw [cmp_in_lst (shaped_int _) (ints_shaped is), any_minus is h]
theorem ints_of (is : List Int) : intsOf (is.map PyData.int) = some is := by
  induction is with
  | nil => rfl
  | cons i is ih => simp [intsOf, ih]
/-- one turn: the numbers at a of all -/
theorem count_turn (n : Nat) (T : PyData) (ts : List Tm) (hl : ts.length ≤ 1000) (F : List PyData) (hF : F.length ≤ 10) (a : Int) (f : Tm → Int) (r : Int) (ha : ∀ t, idxD (cntD t) (.int a) = some (.int (f t))) (hf : ∀ i ∈ ts.map f, -1 ≤ i)
    (hr : ((ts.map f).any (fun i => decide (i < 0)) = true ∧ r = -1) ∨ ((ts.map f).any (fun i => decide (i < 0)) = false ∧ r = (ts.map f).sum ∧ 0 ≤ r)) (v7 : Vr) (h7 : freeB v7 = true) :
    runSs tb.U (CL n) b20_b0 [.d T, .o false false (.lst (ts.map cntD)), .o false false (.lst F), .d (.int a), .no, .no, .no, v7, .no] = .ok .nx [.d T, .o false false (.lst (ts.map cntD)), .o false false (.lst (F ++ [.int r])), .d (.int a), .no, .no, .no, .o false false (.lst ((ts.map f).map .int)), .no] := by
  obtain ⟨cs, hcs⟩ : ∃ cs, cs = ts.map cntD := ⟨_, rfl⟩
  have e := lcE_fg (U := tb.U) (C := CL n) (own := [8]) (tg := .nm 8) (cs := .nil) (e := b20_e0) (f := cntD) (g := fun t => .int (f t)) (ts := ts) (acc := []) (ρ := [.d T, .o false true (.lst cs), .o false false (.lst F), .d (.int a), .no, .no, .no, v7, .no]) (by simp only [List.length_nil]; unfold sizeLine; omega) (by
    intro s hs
    have h := ha s
    exact ⟨[.d T, .o false true (.lst cs), .o false false (.lst F), .d (.int a), .no, .no, .no, v7, .d (cntD s)], [.d T, .o false true (.lst cs), .o false false (.lst F), .d (.int a), .no, .no, .no, v7, .d (cntD s)], .d (.int (f s)), by simp [leave, store, setAt, rdk, idxO, cmpO,  put, puts, keeps, keep, toVr, putAll, open_eq, Tg.to, rd, fz, callO, Ag.slots, Ag.avs, Ag.back, isA, hold, bltD, idxD, List.mapM_cons, List.mapM_nil, Option.bind], by simp, by
      generalize cntD s = x at *
      cases x with
      | list xs => simp only [idxD] at h; simp [leave, store, setAt, rdk, idxO, cmpO,  put, puts, keeps, keep, toVr, putAll, open_eq, Tg.to, rd, fz, callO, Ag.slots, Ag.avs, Ag.back, isA, hold, bltD, idxD, List.mapM_cons, List.mapM_nil, Option.bind, b20_e0, h]
      | tuple xs => simp only [idxD] at h; simp [leave, store, setAt, rdk, idxO, cmpO,  put, puts, keeps, keep, toVr, putAll, open_eq, Tg.to, rd, fz, callO, Ag.slots, Ag.avs, Ag.back, isA, hold, bltD, idxD, List.mapM_cons, List.mapM_nil, Option.bind, b20_e0, h]
      | _ => simp [idxD] at h, [.d T, .o false true (.lst cs), .o false false (.lst F), .d (.int a), .no, .no, .no, v7, .d (cntD s)], by simp [leave, store, setAt, rdk, idxO, cmpO,  put, puts, keeps, keep, toVr, putAll, open_eq, Tg.to, rd, fz, callO, Ag.slots, Ag.avs, Ag.back, isA, hold, bltD, idxD, List.mapM_cons, List.mapM_nil, Option.bind], by simp⟩)
  have i := minus_in (ts.map f) hf
  have s := ints_of (ts.map f)
  rw [← hcs] at e ⊢
  simp only [List.nil_append] at e
  rw [show (ts.map fun t => PyData.int (f t)) = (ts.map f).map .int by simp] at e
  generalize ts.map f = is at *
  generalize is.map PyData.int = ys at *
  have hz : F.length < sizeLine := by unfold sizeLine; omega
  rcases hr with ⟨a1, rfl⟩ | ⟨a1, a2, _⟩
  · simp [leave, store, setAt, rdk, idxO, cmpO,  put, puts, keeps, keep, toVr, putAll, open_eq, Tg.to, rd, fz, callO, Ag.slots, Ag.avs, Ag.back, isA, hold, bltD, idxD, List.mapM_cons, List.mapM_nil, Option.bind, b20_b0, items, lock, unlock, lockV, free, e, h7, i, a1, eq_true hz]
  · have sd : sumD [.list ys] = some (.d (.int r)) := by simp only [sumD, s, Option.map_some, a2]
    simp [leave, store, setAt, rdk, idxO, cmpO,  put, puts, keeps, keep, toVr, putAll, open_eq, Tg.to, rd, fz, callO, Ag.slots, Ag.avs, Ag.back, isA, hold, bltD, idxD, List.mapM_cons, List.mapM_nil, Option.bind, b20_b0, items, lock, unlock, lockV, free, e, h7, i, a1, sd, eq_true hz]
theorem count_spec : ∀ (D : Nat) (t : Tm), dep t ≤ D → okT t = true → cnt t ≤ 1000 → ∀ n, D + 1 ≤ n → CL n 20 [.d (enc t)] = .ret (.o (.lst [.int (plc t), .int (iso t)])) [.d (enc t)] := by
  obtain ⟨l1, l2, l3, l4, l5, l6⟩ := litT
  have d1 : (("sum" : Str) == "sum") = true := by decide +kernel
  have int : ∀ (k : Int) (n : Nat), CL (n + 1) 20 [.d (enc (.int k))] = .ret (.o (.lst [.int (plc (.int k)), .int (iso (.int k))])) [.d (enc (.int k))] := fun k n => by
    rw [CL, calls_at (F := f20.fd) rfl]
    simp only [f20, run_def, b20, Fd.enter]
    simp [leave, store, setAt, rdk, idxO, cmpO,  put, puts, keeps, keep, toVr, putAll, open_eq, Tg.to, rd, fz, callO, Ag.slots, Ag.avs, Ag.back, isA, hold, bltD, idxD, List.mapM_cons, List.mapM_nil, Option.bind, enc, plc, iso]
  intro D
  induction D with
  | zero =>
    intro t hd ho hc n hn
    obtain ⟨n, rfl⟩ : ∃ m, n = m + 1 := ⟨n - 1, by omega⟩
    cases t with
    | int k => exact int k n
    | sum ts => simp [dep] at hd
    | lim t => simp [dep] at hd
    | dust t => simp [dep] at hd
  | succ D ih =>
    intro t hd ho hc n hn
    obtain ⟨n, rfl⟩ : ∃ m, n = m + 1 := ⟨n - 1, by omega⟩
    have lc : ∀ (x : PyData) (ts : List Tm), ts.length ≤ 1000 → (∀ s ∈ ts, CL n 20 [.d (enc s)] = .ret (.o (.lst [.int (plc s), .int (iso s)])) [.d (enc s)]) → lcE tb.U (CL n) [6] (.nm 6) .nil b20_e1 (encs ts) [] [.d x, .no, .no, .no, .no, .no, .no, .no, .no] = .ok (ts.map cntD) [.d x, .no, .no, .no, .no, .no, .no, .no, .no] := by
      intro x ts hl h
      have e := lcE_fg (U := tb.U) (C := CL n) (own := [6]) (tg := .nm 6) (cs := .nil) (e := b20_e1) (f := enc) (g := cntD) (ts := ts) (acc := []) (ρ := [.d x, .no, .no, .no, .no, .no, .no, .no, .no]) (by simp only [List.length_nil]; unfold sizeLine; omega) (by
        intro s hs
        have q := h s hs
        exact ⟨[.d x, .no, .no, .no, .no, .no, .d (enc s), .no, .no], [.d x, .no, .no, .no, .no, .no, .d (enc s), .no, .no], .o (.lst [.int (plc s), .int (iso s)]), by simp [leave, store, setAt, rdk, idxO, cmpO,  put, puts, keeps, keep, toVr, putAll, open_eq, Tg.to, rd, fz, callO, Ag.slots, Ag.avs, Ag.back, isA, hold, bltD, idxD, List.mapM_cons, List.mapM_nil, Option.bind], by simp, by simp [leave, store, setAt, rdk, idxO, cmpO,  put, puts, keeps, keep, toVr, putAll, open_eq, Tg.to, rd, fz, callO, Ag.slots, Ag.avs, Ag.back, isA, hold, bltD, idxD, List.mapM_cons, List.mapM_nil, Option.bind, b20_e1, q], [.d x, .no, .no, .no, .no, .no, .d (enc s), .no, .no], by simp [leave, store, setAt, rdk, idxO, cmpO,  put, puts, keeps, keep, toVr, putAll, open_eq, Tg.to, rd, fz, callO, Ag.slots, Ag.avs, Ag.back, isA, hold, bltD, idxD, List.mapM_cons, List.mapM_nil, Option.bind, cntD], by simp⟩)
      rw [encs_map]; simpa using e
    cases t with
    | int k => exact int k n
    | lim t =>
      simp only [dep] at hd
      simp only [cnt] at hc
      simp only [okT] at ho
      have e := lc (enc (.lim t)) [t] (by simp) (fun s hs => by simp at hs; subst hs; exact ih s (by omega) ho (by omega) n (by omega))
      have z := iso_zero t ho
      simp only [encs, List.map_cons, List.map_nil, cntD, enc] at e
      rw [CL, calls_at (F := f20.fd) rfl]
      simp only [f20, run_def, b20, Fd.enter]
      by_cases c : plc t = 0
      · have c2 := z c
        simp [leave, store, setAt, rdk, idxO, cmpO,  put, puts, keeps, keep, toVr, putAll, open_eq, Tg.to, rd, fz, callO, Ag.slots, Ag.avs, Ag.back, isA, hold, bltD, idxD, List.mapM_cons, List.mapM_nil, Option.bind, enc, slc_one, items, free, e, l1, puts, c, c2, plc, iso]
      · by_cases c2 : iso t = 0
        · simp [leave, store, setAt, rdk, idxO, cmpO,  put, puts, keeps, keep, toVr, putAll, open_eq, Tg.to, rd, fz, callO, Ag.slots, Ag.avs, Ag.back, isA, hold, bltD, idxD, List.mapM_cons, List.mapM_nil, Option.bind, enc, slc_one, items, free, e, l1, puts, c, c2, plc, iso]
        · simp [leave, store, setAt, rdk, idxO, cmpO,  put, puts, keeps, keep, toVr, putAll, open_eq, Tg.to, rd, fz, callO, Ag.slots, Ag.avs, Ag.back, isA, hold, bltD, idxD, List.mapM_cons, List.mapM_nil, Option.bind, enc, slc_one, items, free, e, l1, puts, c, c2, plc, iso]
    | dust t =>
      simp only [dep] at hd
      simp only [cnt] at hc
      simp only [okT] at ho
      have e := lc (enc (.dust t)) [t] (by simp) (fun s hs => by simp at hs; subst hs; exact ih s (by omega) ho (by omega) n (by omega))
      simp only [encs, List.map_cons, List.map_nil, cntD, enc] at e
      rw [CL, calls_at (F := f20.fd) rfl]
      simp only [f20, run_def, b20, Fd.enter]
      by_cases c2 : iso t = 0
      · simp [leave, store, setAt, rdk, idxO, cmpO,  put, puts, keeps, keep, toVr, putAll, open_eq, Tg.to, rd, fz, callO, Ag.slots, Ag.avs, Ag.back, isA, hold, bltD, idxD, List.mapM_cons, List.mapM_nil, Option.bind, enc, slc_one, items, free, e, l2, l6, puts, c2, plc, iso]
      · simp [leave, store, setAt, rdk, idxO, cmpO,  put, puts, keeps, keep, toVr, putAll, open_eq, Tg.to, rd, fz, callO, Ag.slots, Ag.avs, Ag.back, isA, hold, bltD, idxD, List.mapM_cons, List.mapM_nil, Option.bind, enc, slc_one, items, free, e, l2, l6, puts, c2, plc, iso]
    | sum ts =>
      simp only [dep] at hd
      simp only [cnt] at hc
      simp only [okT, Bool.and_eq_true] at ho
      have ql := cnts_len ts
      have e := lc (enc (.sum ts)) ts (by omega) (fun s hs => ih s (by have := dep_mem hs; omega) (ok_mem ho.2 hs) (by have := cnt_mem hs; omega) n (by omega))
      have t0 := count_turn n (enc (.sum ts)) ts (by omega) [] (by simp) 0 plc (plcs ts) (fun t => by simp [idxD, cntD]) (fun i hi => by
        obtain ⟨t, ht, rfl⟩ := List.mem_map.mp hi; exact plc_lo t (ok_mem ho.2 ht)) (sum_plcs ts ho.2) .no rfl
      have t1 := count_turn n (enc (.sum ts)) ts (by omega) [.int (plcs ts)] (by simp) 1 iso (isos ts) (fun t => by simp [idxD, cntD]) (fun i hi => by
        obtain ⟨t, ht, rfl⟩ := List.mem_map.mp hi; exact iso_lo t (ok_mem ho.2 ht)) (sum_isos ts ho.2) (.o false false (.lst ((ts.map plc).map .int))) rfl
      generalize hP : (ts.map plc).map PyData.int = P at t0 t1
      generalize hQ : (ts.map iso).map PyData.int = Q at t0 t1
      have fo : forE tb.U (CL n) (.nm 3) b20_b0 [.int 0, .int 1] [.d (enc (.sum ts)), .o false false (.lst (ts.map cntD)), .o false false (.lst []), .no, .no, .no, .no, .no, .no] = .ok .nx [.d (enc (.sum ts)), .o false false (.lst (ts.map cntD)), .o false false (.lst [.int (plcs ts), .int (isos ts)]), .d (.int 1), .no, .no, .no, .o false false (.lst Q), .no] := by
        rw [forE_cons]
        simp only [Tg.to, put, open_eq, List.length_cons, List.length_nil, get_succ, get_zero, freeB_no]
        simp [t0]
        rw [forE_cons]
        simp only [Tg.to, put, open_eq, List.length_cons, List.length_nil, get_succ, get_zero, freeB_d]
        simp [t1, forE_nil]
      simp only [enc] at *
      generalize encs ts = xs at *
      generalize ts.map cntD = cs at *
      clear hP hQ
      rw [CL, calls_at (F := f20.fd) rfl]
      simp only [f20, run_def, b20, Fd.enter]
      simp [leave, store, setAt, rdk, idxO, cmpO,  put, puts, keeps, keep, toVr, putAll, open_eq, Tg.to, rd, fz, callO, Ag.slots, Ag.avs, Ag.back, isA, hold, bltD, idxD, List.mapM_cons, List.mapM_nil, Option.bind, slc_one, items, free, e, fo, plc, iso]
end W

set_option linter.all false
set_option maxRecDepth 100000
namespace W
open PySem Ev Lib
/-! ### what is told within -/
def inD (s : Str) (zs : List PyData) : PyData := if s == "sum" then (if 2 ≤ zs.length then .tuple zs else .none) else if ("limit" == s || "dust" == s) && decide (zs.length = 1) then .tuple zs else .none
theorem told_tup (n : Nat) (s : Str) (hs : PyData.strOk s = true) (zs : List PyData) (hz : zs.length ≤ 10000) (h0 : zs ≠ []) : CL (n + 2) 2 [.d (.tuple (.str s :: zs))] = .ret (.d (inD s zs)) [.d (.tuple (.str s :: zs))] := by
  obtain ⟨z, r, rfl⟩ : ∃ z r, zs = z :: r := by
    cases zs with
    | nil => exact absurd rfl h0
    | cons z r => exact ⟨z, r, rfl⟩
  obtain ⟨L, hL⟩ : ∃ L : Int, L = (z :: r).length + 1 := ⟨_, rfl⟩
  have hl : lenD [.tuple (.str s :: z :: r)] = some (.d (.int L)) := by
    have : (PyData.str s :: z :: r).length ≤ sizeLine := by unfold sizeLine; simp only [List.length_cons] at *; omega
    simp only [lenD, if_pos this]; simp [hL]
  have c0 : ¬ L < 2 := by simp only [List.length_cons] at hL; omega
  have hp := in_powers hs
  rw [CL, calls_at (F := f2.fd) rfl]
  simp only [f2, run_def, b2, Fd.enter]
  cases c1 : s == "sum" with
  | true =>
    by_cases c2 : 2 ≤ (z :: r).length
    · have c3 : 2 < L := by omega
      simp only [inD, c1, if_true, if_pos c2]
      simp [leave, store, setAt, rdk, idxO, cmpO,  put, puts, keeps, keep, toVr, putAll, open_eq, Tg.to, rd, fz, callO, Ag.slots, Ag.avs, Ag.back, isA, hold, bltD, idxD, List.mapM_cons, List.mapM_nil, Option.bind, is_integer_spec, isInt, hl, c0, c1, c3, slc_one]
    · have c3 : ¬ 2 < L := by omega
      simp only [inD, c1, if_true, if_neg c2]
      simp [leave, store, setAt, rdk, idxO, cmpO,  put, puts, keeps, keep, toVr, putAll, open_eq, Tg.to, rd, fz, callO, Ag.slots, Ag.avs, Ag.back, isA, hold, bltD, idxD, List.mapM_cons, List.mapM_nil, Option.bind, is_integer_spec, isInt, hl, c0, c1, c3]
  | false =>
    simp only [inD, c1, Bool.false_eq_true, if_false]
    cases c2 : ("limit" == s || "dust" == s) with
    | true =>
      rw [c2] at hp
      by_cases c3 : (z :: r).length = 1
      · have c4 : L = 2 := by omega
        simp only [c3, Bool.true_and, decide_true, if_true]
        simp [leave, store, setAt, rdk, idxO, cmpO,  put, puts, keeps, keep, toVr, putAll, open_eq, Tg.to, rd, fz, callO, Ag.slots, Ag.avs, Ag.back, isA, hold, bltD, idxD, List.mapM_cons, List.mapM_nil, Option.bind, is_integer_spec, isInt, hl, c0, c1, glob0, hp, c4, slc_one]
      · have c4 : ¬ L = 2 := by omega
        simp only [c3, Bool.true_and, decide_false, Bool.false_eq_true, if_false]
        simp [leave, store, setAt, rdk, idxO, cmpO,  put, puts, keeps, keep, toVr, putAll, open_eq, Tg.to, rd, fz, callO, Ag.slots, Ag.avs, Ag.back, isA, hold, bltD, idxD, List.mapM_cons, List.mapM_nil, Option.bind, is_integer_spec, isInt, hl, c0, c1, glob0, hp, c4]
    | false =>
      rw [c2] at hp
      simp only [Bool.false_and, Bool.false_eq_true, if_false]
      simp [leave, store, setAt, rdk, idxO, cmpO,  put, puts, keeps, keep, toVr, putAll, open_eq, Tg.to, rd, fz, callO, Ag.slots, Ag.avs, Ag.back, isA, hold, bltD, idxD, List.mapM_cons, List.mapM_nil, Option.bind, is_integer_spec, isInt, hl, c0, c1, glob0, hp]
theorem told_no (n : Nat) {x : PyData} (h1 : isInt x = false) (h2 : isA .tuple x = false) : CL (n + 2) 2 [.d x] = .ret (.d .none) [.d x] := by
  rw [CL, calls_at (F := f2.fd) rfl]
  simp only [f2, run_def, b2, Fd.enter]
  simp [leave, store, setAt, rdk, idxO, cmpO,  put, puts, keeps, keep, toVr, putAll, open_eq, Tg.to, rd, fz, callO, Ag.slots, Ag.avs, Ag.back, isA, hold, bltD, idxD, List.mapM_cons, List.mapM_nil, Option.bind, is_integer_spec, h1]
  cases x <;> simp [isA] at h2 ⊢
theorem told_neg (n : Nat) {i : Int} (h : i < 0) : CL (n + 2) 2 [.d (.int i)] = .ret (.d .none) [.d (.int i)] := by
  have : ¬ 0 ≤ i := by omega
  rw [CL, calls_at (F := f2.fd) rfl]
  simp only [f2, run_def, b2, Fd.enter]
  simp [leave, store, setAt, rdk, idxO, cmpO,  put, puts, keeps, keep, toVr, putAll, open_eq, Tg.to, rd, fz, callO, Ag.slots, Ag.avs, Ag.back, isA, hold, bltD, idxD, List.mapM_cons, List.mapM_nil, Option.bind, is_integer_spec, isInt, this]
theorem told_short (n : Nat) {xs : List PyData} (h : xs.length < 2) : CL (n + 2) 2 [.d (.tuple xs)] = .ret (.d .none) [.d (.tuple xs)] := by
  obtain ⟨L, hL⟩ : ∃ L : Int, L = xs.length := ⟨_, rfl⟩
  have hl : lenD [.tuple xs] = some (.d (.int L)) := by
    have : xs.length ≤ sizeLine := by unfold sizeLine; omega
    simp only [lenD, if_pos this, hL]
  have c0 : L < 2 := by omega
  rw [CL, calls_at (F := f2.fd) rfl]
  simp only [f2, run_def, b2, Fd.enter]
  simp [leave, store, setAt, rdk, idxO, cmpO,  put, puts, keeps, keep, toVr, putAll, open_eq, Tg.to, rd, fz, callO, Ag.slots, Ag.avs, Ag.back, isA, hold, bltD, idxD, List.mapM_cons, List.mapM_nil, Option.bind, is_integer_spec, isInt, hl, c0]
theorem told_first (n : Nat) {x y : PyData} (h : isA .str x = false) : CL (n + 2) 2 [.d (.tuple [x, y])] = .ret (.d .none) [.d (.tuple [x, y])] := by
  have hl : lenD [.tuple [x, y]] = some (.d (.int 2)) := by simp [lenD]
  rw [CL, calls_at (F := f2.fd) rfl]
  simp only [f2, run_def, b2, Fd.enter]
  simp [leave, store, setAt, rdk, idxO, cmpO,  put, puts, keeps, keep, toVr, putAll, open_eq, Tg.to, rd, fz, callO, Ag.slots, Ag.avs, Ag.back, isA, hold, bltD, idxD, List.mapM_cons, List.mapM_nil, Option.bind, is_integer_spec, isInt, hl]
  cases x <;> simp [isA] at h ⊢
/-! ### bent terms -/
structure Bn (k d : Nat) (y : PyData) : Prop where
  bd : ∃ c, c ≤ k + 10 ∧ Bd c y
  fi : fineE y = true
  nd : nd y ≤ 2 * k + 20
  dp : y.depth ≤ d + 5
mutual
theorem nd_enc : ∀ t : Tm, bdT t = true → fineE (enc t) = true ∧ nd (enc t) ≤ 2 * cnt t ∧ (enc t).depth ≤ dep t
  | .int k, h => by
    simp only [bdT, decide_eq_true_eq] at h
    refine ⟨?_, by simp [enc, Lib.nd, cnt], by simp [enc, PyData.depth, dep]⟩
    simp only [enc, fineE, Bool.and_eq_true, decide_eq_true_eq]; omega
  | .sum ts, h => by
    simp only [bdT, Bool.and_eq_true] at h
    obtain ⟨a, b, c⟩ := nds_encs ts h.2
    have s1 : fineE (.str "sum") = true := by decide +kernel
    refine ⟨by simp only [enc, fineE, finesE, Bool.and_eq_true]; exact ⟨by simpa only [fineE, Bool.and_eq_true] using s1, a⟩, by simp only [enc, Lib.nd, nds, cnt]; omega, by simp only [enc, PyData.depth, PyData.depthAll, dep]; omega⟩
  | .lim t, h => by
    simp only [bdT] at h
    obtain ⟨a, b, c⟩ := nd_enc t h
    have s1 : fineE (.str "limit") = true := by decide +kernel
    refine ⟨by simp only [enc, fineE, finesE, Bool.and_eq_true, Bool.and_true]; exact ⟨by simpa only [fineE, Bool.and_eq_true] using s1, a⟩, by simp only [enc, Lib.nd, nds, cnt]; omega, by simp only [enc, PyData.depth, PyData.depthAll, dep]; omega⟩
  | .dust t, h => by
    simp only [bdT] at h
    obtain ⟨a, b, c⟩ := nd_enc t h
    have s1 : fineE (.str "dust") = true := by decide +kernel
    refine ⟨by simp only [enc, fineE, finesE, Bool.and_eq_true, Bool.and_true]; exact ⟨by simpa only [fineE, Bool.and_eq_true] using s1, a⟩, by simp only [enc, Lib.nd, nds, cnt]; omega, by simp only [enc, PyData.depth, PyData.depthAll, dep]; omega⟩
theorem nds_encs : ∀ ts : List Tm, bdsT ts = true → finesE (encs ts) = true ∧ nds (encs ts) ≤ 2 * cnts ts ∧ PyData.depthAll (encs ts) ≤ deps ts
  | [], _ => by simp [encs, finesE, nds, PyData.depthAll]
  | t :: ts, h => by
    simp only [bdsT, Bool.and_eq_true] at h
    obtain ⟨a, b, c⟩ := nd_enc t h.1
    obtain ⟨a', b', c'⟩ := nds_encs ts h.2
    refine ⟨by simp only [encs, finesE, Bool.and_eq_true]; exact ⟨a, a'⟩, by simp only [encs, nds, cnts]; omega, by simp only [encs, PyData.depthAll, deps]; omega⟩
end
theorem Bn.mono {k d k' d' : Nat} {y : PyData} (h : Bn k d y) (h1 : k ≤ k') (h2 : d ≤ d') : Bn k' d' y := by
  obtain ⟨⟨c, hc, hb⟩, h3, h4, h5⟩ := h
  exact ⟨⟨c, by omega, hb⟩, h3, by omega, by omega⟩
theorem bn_sum {k d : Nat} {y : PyData} (h : Bn k d y) {l r : List Tm} (hl : bdsT l = true) (hr : bdsT r = true) (h1 : 1 ≤ l.length + r.length) (hd : deps l ≤ d) (hd' : deps r ≤ d) (hk : cnts l + k + cnts r ≤ 1000) :
    Bn (cnts l + k + cnts r + 1) (d + 1) (.tuple (.str "sum" :: (encs l ++ y :: encs r))) := by
  obtain ⟨⟨c, hc, hb⟩, h2, h3, h4⟩ := h
  have s1 : fineE (.str "sum") = true := by decide +kernel
  obtain ⟨a, b, c1⟩ := nds_encs l hl
  obtain ⟨a', b', c'⟩ := nds_encs r hr
  have q := cnts_len l
  have q' := cnts_len r
  have e1 := encs_len l
  have e2 := encs_len r
  refine ⟨⟨c + 1 + l.length + cnts r, by omega, ?_⟩, ?_, ?_, ?_⟩
  · refine Bd.sub (fun n => ?_) (bds_ok r hr) hb
    have := told_tup n "sum" (by decide +kernel) (encs l ++ y :: encs r) (by simp only [List.length_append, List.length_cons]; omega) (by simp)
    have q : inD "sum" (encs l ++ y :: encs r) = .tuple (encs l ++ y :: encs r) := by
      have c2 : 2 ≤ (encs l ++ y :: encs r).length := by simp only [List.length_append, List.length_cons]; omega
      simp only [inD, if_pos c2]
      rfl
    rw [q] at this
    exact this
  · simp only [fineE, finesE, finesE_app, Bool.and_eq_true]; exact ⟨by simpa only [fineE, Bool.and_eq_true] using s1, a, h2, a'⟩
  · simp only [Lib.nd, nds, nds_app]; omega
  · simp only [PyData.depth, PyData.depthAll, depthAll_app]; omega
theorem bn_lim {k d : Nat} {y : PyData} (h : Bn k d y) : Bn (k + 1) (d + 1) (.tuple [.str "limit", y]) ∧ Bn (k + 1) (d + 1) (.tuple [.str "dust", y]) := by
  obtain ⟨⟨c, hc, hb⟩, h2, h3, h4⟩ := h
  have s1 : fineE (.str "limit") = true := by decide +kernel
  have s2 : fineE (.str "dust") = true := by decide +kernel
  refine ⟨⟨⟨c + 1, by omega, ?_⟩, by simp only [fineE, finesE, Bool.and_eq_true, Bool.and_true]; exact ⟨by simpa only [fineE, Bool.and_eq_true] using s1, h2⟩, by simp only [Lib.nd, nds]; omega, by simp only [PyData.depth, PyData.depthAll]; omega⟩, ⟨⟨c + 1, by omega, ?_⟩, by simp only [fineE, finesE, Bool.and_eq_true, Bool.and_true]; exact ⟨by simpa only [fineE, Bool.and_eq_true] using s2, h2⟩, by simp only [Lib.nd, nds]; omega, by simp only [PyData.depth, PyData.depthAll]; omega⟩⟩
  · have := Bd.sub (x := .tuple [.str "limit", y]) (l := []) (r := []) (fun n => by
      have := told_tup n "limit" (by decide +kernel) [y] (by simp) (by simp)
      have q : inD "limit" [y] = .tuple [y] := by
        have e1 : (("limit" : Str) == "sum") = false := by decide +kernel
        simp [inD, e1]
      rw [q] at this
      exact this) rfl hb
    simpa [cnts] using this
  · have := Bd.sub (x := .tuple [.str "dust", y]) (l := []) (r := []) (fun n => by
      have := told_tup n "dust" (by decide +kernel) [y] (by simp) (by simp)
      have q : inD "dust" [y] = .tuple [y] := by
        have e1 : (("dust" : Str) == "sum") = false := by decide +kernel
        simp [inD, e1]
      rw [q] at this
      exact this) rfl hb
    simpa [cnts] using this
end W

set_option linter.all false
set_option maxRecDepth 100000
namespace W
open PySem Ev Lib
/-! ### _law_put -/
theorem put_run (m : Nat) {zs : List PyData} {z x y : PyData} {w w1 w2 w3 : List PyData} {r b a : Int} (e1 : CL (m + 1) 16 [.o (.lst w), .d (.int 5)] = .ret (.d (.int r)) [.o true false (.lst w1), .d (.int 5)]) (hr : ¬ r = 0)
    (e2 : CL (m + 1) 16 [.o (.lst w1), .d (.int (zs.length - 1))] = .ret (.d (.int b)) [.o true false (.lst w2), .d (.int (zs.length - 1))]) (hb : 0 ≤ b) (hb' : b < zs.length - 1) (ha : a = 1 + b) (hz : L2.atI zs a = some z) (hl : zs.length ≤ 1000)
    (e3 : CL (m + 1) 21 [.o (.lst w2), .d z, .d x] = .ret (.d y) [.o true false (.lst w3), .d z, .d x]) :
    CL (m + 2) 21 [.o (.lst w), .d (.tuple zs), .d x] = .ret (.d (.tuple (zs.take a.toNat ++ y :: zs.drop (a.toNat + 1)))) [.o true false (.lst w3), .d (.tuple zs), .d x] := by
  obtain ⟨L, hL⟩ : ∃ L : Int, L = zs.length := ⟨_, rfl⟩
  have hn : lenD [.tuple zs] = some (.d (.int L)) := by
    have : zs.length ≤ sizeLine := by unfold sizeLine; omega
    simp only [lenD, if_pos this, hL]
  rw [← hL] at e2
  have s1 : slcD (.tuple zs) none (some a) = some (.d (.tuple (zs.take a.toNat))) := by
    have : small a = true := by simp [small]; omega
    simp only [slcD, Option.all_none, Option.all_some, this, Bool.and_self, if_true]
    rw [part_take (by omega) (by omega)]
  have s2 : slcD (.tuple zs) (some (a + 1)) none = some (.d (.tuple (zs.drop (a.toNat + 1)))) := by
    have : small (a + 1) = true := by simp [small]; omega
    simp only [slcD, Option.all_none, Option.all_some, this, Bool.and_self, if_true]
    rw [part_drop (by omega) (by omega), show (a + 1).toNat = a.toNat + 1 by omega]
  have b1 : binD .Add (.tuple (zs.take a.toNat)) (.tuple [y]) = some (.d (.tuple (zs.take a.toNat ++ [y]))) := by
    have : (zs.take a.toNat).length + [y].length ≤ sizeLine := by
      have : (zs.take a.toNat).length ≤ zs.length := by rw [List.length_take]; omega
      simp only [List.length_cons, List.length_nil]; unfold sizeLine; omega
    simp only [binD, if_pos this]
  have b2 : binD .Add (.tuple (zs.take a.toNat ++ [y])) (.tuple (zs.drop (a.toNat + 1))) = some (.d (.tuple (zs.take a.toNat ++ y :: zs.drop (a.toNat + 1)))) := by
    have : (zs.take a.toNat ++ [y]).length + (zs.drop (a.toNat + 1)).length ≤ sizeLine := by
      simp only [List.length_append, List.length_cons, List.length_nil, List.length_take, List.length_drop]; unfold sizeLine; omega
    simp only [binD, if_pos this]; simp
  generalize zs.take a.toNat ++ y :: zs.drop (a.toNat + 1) = R at *
  generalize zs.take a.toNat ++ [y] = R1 at *
  generalize zs.take a.toNat = R2 at *
  generalize zs.drop (a.toNat + 1) = R3 at *
  rw [CL, calls_at (F := f21.fd) rfl]
  simp only [f21, run_def, b21, Fd.enter]
  simp [leave, store, setAt, rdk, idxO, cmpO,  put, puts, keeps, keep, toVr, putAll, open_eq, Tg.to, rd, fz, callO, Ag.slots, Ag.avs, Ag.back, isA, hold, bltD, idxD, List.mapM_cons, List.mapM_nil, Option.bind, e1, hr, hn, e2, ← ha, s1, s2, hz, e3, b1, b2]
theorem put_stay (m : Nat) {zs : List PyData} {x : PyData} {w w1 : List PyData} (e1 : CL (m + 1) 16 [.o (.lst w), .d (.int 5)] = .ret (.d (.int 0)) [.o true false (.lst w1), .d (.int 5)]) : CL (m + 2) 21 [.o (.lst w), .d (.tuple zs), .d x] = .ret (.d x) [.o true false (.lst w1), .d (.tuple zs), .d x] := by
  rw [CL, calls_at (F := f21.fd) rfl]
  simp only [f21, run_def, b21, Fd.enter]
  simp [leave, store, setAt, rdk, idxO, cmpO,  put, puts, keeps, keep, toVr, putAll, open_eq, Tg.to, rd, fz, callO, Ag.slots, Ag.avs, Ag.back, isA, hold, bltD, idxD, List.mapM_cons, List.mapM_nil, Option.bind, e1]
theorem bds_mem {t : Tm} : ∀ {ts : List Tm}, bdsT ts = true → t ∈ ts → bdT t = true
  | s :: ts, h, m => by
    simp only [bdsT, Bool.and_eq_true] at h
    rcases List.mem_cons.mp m with rfl | m
    · exact h.1
    · exact bds_mem h.2 m
theorem deps_le {d : Nat} : ∀ {ts : List Tm}, (∀ t ∈ ts, dep t ≤ d) → deps ts ≤ d
  | [], _ => by simp [deps]
  | t :: ts, h => by
    have := h t (List.mem_cons_self ..)
    have := deps_le fun s hs => h s (List.mem_cons_of_mem _ hs)
    simp only [deps]; omega
theorem put_spec : ∀ (D : Nat) (t : Tm), dep t ≤ D → bdT t = true → cnt t ≤ 100 → ∀ (n : Nat) (w : List PyData) (x : PyData), D + 2 ≤ n → Spr w → Bn 0 0 x →
    ∃ y w', CL n 21 [.o (.lst w), .d (enc t), .d x] = .ret (.d y) [.o true false (.lst w'), .d (enc t), .d x] ∧ Spr w' ∧ Bn (cnt t) (dep t) y := by
  intro D
  induction D with
  | zero =>
    intro t hd hb hc n w x hn hw hx
    obtain ⟨n, rfl⟩ : ∃ m, n = m + 1 := ⟨n - 1, by omega⟩
    cases t with
    | int k =>
      refine ⟨x, w, ?_, hw, hx.mono (by omega) (by omega)⟩
      rw [CL, calls_at (F := f21.fd) rfl]
      simp only [f21, run_def, b21, Fd.enter]
      simp [leave, store, setAt, rdk, idxO, cmpO,  put, puts, keeps, keep, toVr, putAll, open_eq, Tg.to, rd, fz, callO, Ag.slots, Ag.avs, Ag.back, isA, hold, bltD, idxD, List.mapM_cons, List.mapM_nil, Option.bind, enc]
    | sum ts => simp [dep] at hd
    | lim t => simp [dep] at hd
    | dust t => simp [dep] at hd
  | succ D ih =>
    intro t hd hb hc n w x hn hw hx
    obtain ⟨m, rfl⟩ : ∃ m, n = m + 2 := ⟨n - 2, by omega⟩
    obtain ⟨r, w1, e1, r0, r1, hw1⟩ := draw_spec m hw (m := 5) (by decide) (by decide)
    cases t with
    | int k =>
      refine ⟨x, w, ?_, hw, hx.mono (by omega) (by omega)⟩
      rw [CL, calls_at (F := f21.fd) rfl]
      simp only [f21, run_def, b21, Fd.enter]
      simp [leave, store, setAt, rdk, idxO, cmpO,  put, puts, keeps, keep, toVr, putAll, open_eq, Tg.to, rd, fz, callO, Ag.slots, Ag.avs, Ag.back, isA, hold, bltD, idxD, List.mapM_cons, List.mapM_nil, Option.bind, enc]
    | lim t =>
      simp only [dep, cnt, bdT] at hd hc hb
      by_cases hr : r = 0
      · subst hr
        exact ⟨x, w1, put_stay m e1, hw1, hx.mono (by omega) (by omega)⟩
      · obtain ⟨b, w2, e2, b0, b1, hw2⟩ := draw_spec m hw1 (m := 1) (by decide) (by decide)
        have hb0 : b = 0 := by omega
        subst hb0
        obtain ⟨y, w3, e3, hw3, hy⟩ := ih t (by omega) hb (by omega) (m + 1) w2 x (by omega) hw2 hx
        have := put_run m (zs := [.str "limit", enc t]) e1 hr e2 (by omega) (by simp) (a := 1) rfl at_one (by simp) e3
        refine ⟨_, w3, this, hw3, ?_⟩
        exact (bn_lim hy).1
    | dust t =>
      simp only [dep, cnt, bdT] at hd hc hb
      by_cases hr : r = 0
      · subst hr
        exact ⟨x, w1, put_stay m e1, hw1, hx.mono (by omega) (by omega)⟩
      · obtain ⟨b, w2, e2, b0, b1, hw2⟩ := draw_spec m hw1 (m := 1) (by decide) (by decide)
        have hb0 : b = 0 := by omega
        subst hb0
        obtain ⟨y, w3, e3, hw3, hy⟩ := ih t (by omega) hb (by omega) (m + 1) w2 x (by omega) hw2 hx
        have := put_run m (zs := [.str "dust", enc t]) e1 hr e2 (by omega) (by simp) (a := 1) rfl at_one (by simp) e3
        refine ⟨_, w3, this, hw3, ?_⟩
        exact (bn_lim hy).2
    | sum ts =>
      simp only [dep, cnt, bdT, Bool.and_eq_true, decide_eq_true_eq] at hd hc hb
      have ql := cnts_len ts
      have el := encs_len ts
      by_cases hr : r = 0
      · subst hr
        exact ⟨x, w1, put_stay m e1, hw1, hx.mono (by omega) (by omega)⟩
      · obtain ⟨b, w2, e2, b0, b1, hw2⟩ := draw_spec m hw1 (m := ((PyData.str "sum" :: encs ts).length : Int) - 1) (by simp only [List.length_cons]; omega) (by simp only [List.length_cons]; omega)
        obtain ⟨j, rfl⟩ := Int.eq_ofNat_of_zero_le b0
        have hj : j < ts.length := by simp only [List.length_cons] at b1; omega
        have hm : ts[j] ∈ ts := List.getElem_mem hj
        have bj := bds_mem hb.2 hm
        have dj := dep_mem hm
        have cj := cnt_mem hm
        obtain ⟨y, w3, e3, hw3, hy⟩ := ih ts[j] (by omega) bj (by omega) (m + 1) w2 x (by omega) hw2 hx
        have hat : L2.atI (PyData.str "sum" :: encs ts) (1 + (j : Int)) = some (enc ts[j]) := by
          rw [show (1 : Int) + (j : Int) = ((j + 1 : Nat) : Int) by omega, at_nat (by simp only [List.length_cons]; omega), List.getElem?_cons_succ, encs_map, List.getElem?_map, List.getElem?_eq_getElem hj]
          rfl
        have := put_run m (zs := .str "sum" :: encs ts) e1 hr e2 (by omega) b1 (a := 1 + (j : Int)) rfl hat (by simp only [List.length_cons]; omega) e3
        refine ⟨_, w3, this, hw3, ?_⟩
        have sp : ts = ts.take j ++ ts[j] :: ts.drop (j + 1) := by
          simp
        have hbt : bdsT (ts.take j) = true ∧ bdsT (ts.drop (j + 1)) = true := by
          have := hb.2
          rw [sp, bds_app] at this
          simp only [bdsT, Bool.and_eq_true] at this
          exact ⟨this.1, this.2.2⟩
        have ct : cnts ts = cnts (ts.take j) + cnt ts[j] + cnts (ts.drop (j + 1)) := by
          conv => lhs; rw [sp, cnts_app]
          simp only [cnts]; omega
        have dl := deps_le (d := deps ts) (ts := ts.take j) fun s hs => dep_mem (List.mem_of_mem_take hs)
        have dr := deps_le (d := deps ts) (ts := ts.drop (j + 1)) fun s hs => dep_mem (List.mem_of_mem_drop hs)
        have e : (PyData.str "sum" :: encs ts).take (1 + (j : Int)).toNat ++ y :: (PyData.str "sum" :: encs ts).drop ((1 + (j : Int)).toNat + 1) = .str "sum" :: (encs (ts.take j) ++ y :: encs (ts.drop (j + 1))) := by
          rw [show (1 + (j : Int)).toNat = j + 1 by omega]
          simp [encs_map, List.map_take, List.map_drop]
        rw [e]
        have := bn_sum (hy.mono (Nat.le_refl _) (show dep ts[j] ≤ deps ts from dj)) hbt.1 hbt.2 (by simp only [List.length_take, List.length_drop]; omega) dl dr (by omega)
        rw [← ct] at this
        exact this
end W

set_option linter.all false
set_option maxRecDepth 100000
namespace W
open PySem Ev Lib
/-! ### _law_odd -/
theorem bn_of {x : PyData} (h : ∀ n, CL (n + 2) 2 [.d x] = .ret (.d .none) [.d x]) (f : fineE x = true) (hn : nd x ≤ 20) (hd : x.depth ≤ 5) : Bn 0 0 x := ⟨⟨0, by omega, .now h⟩, f, by omega, by omega⟩
def TT : PyData := .tuple [.str "limit", .int 2]
theorem told_none {s : Str} {zs : List PyData} (hs : PyData.strOk s = true) (hz : zs.length ≤ 10) (h0 : zs ≠ []) (h : ((s == "sum") = true ∧ zs.length = 1) ∨ ((s == "sum") = false ∧ (zs.length ≠ 1 ∨ (("limit" == s) = false ∧ ("dust" == s) = false)))) (n : Nat) : CL (n + 2) 2 [.d (.tuple (.str s :: zs))] = .ret (.d .none) [.d (.tuple (.str s :: zs))] := by
  have := told_tup n s hs zs (by omega) h0
  rw [this]
  have : inD s zs = .none := by
    rcases h with ⟨h1, h2⟩ | ⟨h1, h2 | ⟨h2, h3⟩⟩
    · simp [inD, h1, h2]
    · simp [inD, h1, h2]
    · simp [inD, h1, h2, h3]
  rw [this]
def odds (i : Int) : List PyData := [.int i, .bool true, .bool false, .none, .str "0", .tuple [], .list [], .list [.str "limit", TT], .tuple [.str "limit"], .tuple [.str "dust"], .tuple [.str "sum"], .tuple [.str "sum", TT], .tuple [.str "limit", TT, TT], .tuple [.str "dust", TT, .int 0], .tuple [.str "none"], .tuple [.str "Limit", TT], .tuple [.str "on", TT], .tuple [TT, TT], .tuple [.none, TT], .str "dust", .tuple [.tuple []], .tuple [.str "sum", TT, .str "1"], .dict [], .tuple [.str "sum", .list [.int 1, .int 2]]]
theorem depTT : TT.depth = 1 ∧ nd TT = 3 := by constructor <;> simp [TT, PyData.depth, PyData.depthAll, nd, nds]
theorem odds_bad {i : Int} (h0 : i < 0) (h1 : -(10 ^ 7) < i) : ∀ x ∈ odds i, Bn 0 0 x := by
  obtain ⟨t1, t2⟩ := depTT
  intro x hx
  simp only [odds, List.mem_cons, List.not_mem_nil, or_false] at hx
  rcases hx with rfl | rfl | rfl | rfl | rfl | rfl | rfl | rfl | rfl | rfl | rfl | rfl | rfl | rfl | rfl | rfl | rfl | rfl | rfl | rfl | rfl | rfl | rfl | rfl
  · exact bn_of (fun n => told_neg n h0) (by simp only [fineE, Bool.and_eq_true, decide_eq_true_eq]; omega) (by simp [nd]) (by simp [PyData.depth])
  · exact bn_of (fun n => told_no n rfl rfl) rfl (by simp [nd]) (by simp [PyData.depth])
  · exact bn_of (fun n => told_no n rfl rfl) rfl (by simp [nd]) (by simp [PyData.depth])
  · exact bn_of (fun n => told_no n rfl rfl) rfl (by simp [nd]) (by simp [PyData.depth])
  · exact bn_of (fun n => told_no n rfl rfl) (by decide +kernel) (by simp [nd]) (by simp [PyData.depth])
  · exact bn_of (fun n => told_short n (by simp)) rfl (by simp [nd, nds]) (by simp [PyData.depth, PyData.depthAll])
  · exact bn_of (fun n => told_no n rfl rfl) rfl (by simp [nd, nds]) (by simp [PyData.depth, PyData.depthAll])
  · exact bn_of (fun n => told_no n rfl rfl) (by decide +kernel) (by simp [nd, nds, t2]) (by simp [PyData.depth, PyData.depthAll, t1])
  · exact bn_of (fun n => told_short n (by simp)) (by decide +kernel) (by simp [nd, nds]) (by simp [PyData.depth, PyData.depthAll])
  · exact bn_of (fun n => told_short n (by simp)) (by decide +kernel) (by simp [nd, nds]) (by simp [PyData.depth, PyData.depthAll])
  · exact bn_of (fun n => told_short n (by simp)) (by decide +kernel) (by simp [nd, nds]) (by simp [PyData.depth, PyData.depthAll])
  · exact bn_of (told_none (by decide +kernel) (by simp) (by simp) (.inl ⟨by decide +kernel, rfl⟩)) (by decide +kernel) (by simp [nd, nds, t2]) (by simp [PyData.depth, PyData.depthAll, t1])
  · exact bn_of (told_none (by decide +kernel) (by simp) (by simp) (.inr ⟨by decide +kernel, .inl (by simp)⟩)) (by decide +kernel) (by simp [nd, nds, t2]) (by simp [PyData.depth, PyData.depthAll, t1])
  · exact bn_of (told_none (by decide +kernel) (by simp) (by simp) (.inr ⟨by decide +kernel, .inl (by simp)⟩)) (by decide +kernel) (by simp [nd, nds, t2]) (by simp [PyData.depth, PyData.depthAll, t1])
  · exact bn_of (fun n => told_short n (by simp)) (by decide +kernel) (by simp [nd, nds]) (by simp [PyData.depth, PyData.depthAll])
  · exact bn_of (told_none (by decide +kernel) (by simp) (by simp) (.inr ⟨by decide +kernel, .inr ⟨by decide +kernel, by decide +kernel⟩⟩)) (by decide +kernel) (by simp [nd, nds, t2]) (by simp [PyData.depth, PyData.depthAll, t1])
  · exact bn_of (told_none (by decide +kernel) (by simp) (by simp) (.inr ⟨by decide +kernel, .inr ⟨by decide +kernel, by decide +kernel⟩⟩)) (by decide +kernel) (by simp [nd, nds, t2]) (by simp [PyData.depth, PyData.depthAll, t1])
  · exact bn_of (fun n => told_first n rfl) (by decide +kernel) (by simp [nd, nds, t2]) (by simp [PyData.depth, PyData.depthAll, t1])
  · exact bn_of (fun n => told_first n rfl) (by decide +kernel) (by simp [nd, nds, t2]) (by simp [PyData.depth, PyData.depthAll, t1])
  · exact bn_of (fun n => told_no n rfl rfl) (by decide +kernel) (by simp [nd]) (by simp [PyData.depth])
  · exact bn_of (fun n => told_short n (by simp)) rfl (by simp [nd, nds]) (by simp [PyData.depth, PyData.depthAll])
  · have b : Bd 0 (.str "1") := .now fun n => told_no n rfl rfl
    have := Bd.sub (x := .tuple [.str "sum", TT, .str "1"]) (l := [.lim (.int 2)]) (r := []) (fun n => by
      have := told_tup n "sum" (by decide +kernel) [TT, .str "1"] (by simp) (by simp)
      have q : inD "sum" [TT, .str "1"] = .tuple [TT, .str "1"] := by
        simp only [inD]; rfl
      rw [q] at this
      exact this) rfl b
    exact ⟨⟨_, by simp [cnts], this⟩, by decide +kernel, by simp [nd, nds, t2], by simp [PyData.depth, PyData.depthAll, t1]⟩
  · exact bn_of (fun n => told_no n rfl rfl) rfl (by simp [nd]) (by simp [PyData.depth, PyData.depthKv])
  · exact bn_of (told_none (by decide +kernel) (by simp) (by simp) (.inl ⟨by decide +kernel, rfl⟩)) (by decide +kernel) (by simp [nd, nds]) (by simp [PyData.depth, PyData.depthAll])
theorem odd_spec (n : Nat) {w : List PyData} (hw : Spr w) : ∃ x w', CL (n + 2) 22 [.o (.lst w), .d TT] = .ret (.d x) [.o true false (.lst w'), .d TT] ∧ Spr w' ∧ Bn 0 0 x := by
  obtain ⟨r, w1, e1, r0, r1, hw1⟩ := draw_spec n hw (m := 1000000) (by decide) (by decide)
  obtain ⟨q, w2, e2, q0, q1, hw2⟩ := draw_spec n hw1 (m := 24) (by decide) (by decide)
  obtain ⟨i, hi⟩ : ∃ i : Int, i = -1 - r := ⟨_, rfl⟩
  obtain ⟨x, hx, hm⟩ := at_int (xs := odds i) q0 (by simpa [odds] using q1)
  refine ⟨x, w2, ?_, hw2, odds_bad (by omega) (by omega) x hm⟩
  clear hm
  rw [CL, calls_at (F := f22.fd) rfl]
  simp only [f22, run_def, b22, Fd.enter]
  have b1 : ∀ xs ys : List PyData, xs.length + ys.length ≤ 100 → binD .Add (.list xs) (.list ys) = some (.o (.lst (xs ++ ys))) := fun xs ys h => by
    have : xs.length + ys.length ≤ sizeLine := by unfold sizeLine; omega
    simp only [binD, if_pos this]
  have l1 : lenD [.list (odds i)] = some (.d (.int 24)) := by simp [lenD, odds]
  simp only [odds] at hx l1
  simp [leave, store, setAt, rdk, idxO, cmpO,  put, puts, keeps, keep, toVr, putAll, open_eq, Tg.to, rd, fz, callO, Ag.slots, Ag.avs, Ag.back, isA, hold, bltD, idxD, List.mapM_cons, List.mapM_nil, Option.bind, e1, p6, b1, ← hi, l1, e2, hx]
/-! ### calls that are refused -/
theorem call_bad (n : Nat) {k d : Nat} {x : PyData} (h : Bn k d x) (hk : k ≤ 100) {a : Int} (a0 : 0 ≤ a) (a1 : a < 4) : CL (n + 6) 23 [.d (.int a), .d x] = .exc 1 x [.d (.int a), .d x] := by
  obtain ⟨c, hc, hb⟩ := h.bd
  have e := bd_check n hb (by omega)
  have f : ∀ f : Nat, (f = 11 ∨ f = 12 ∨ f = 13 ∨ f = 14) → CL (n + 5) f [.d x] = .exc 1 x [.d x] := by
    rintro f (rfl | rfl | rfl | rfl)
    · rw [CL, calls_at (F := f11.fd) rfl]
      simp only [f11, run_def, b11, Fd.enter]
      simp [leave, store, setAt, rdk, idxO, cmpO,  put, puts, keeps, keep, toVr, putAll, open_eq, Tg.to, rd, fz, callO, Ag.slots, Ag.avs, Ag.back, isA, hold, bltD, idxD, List.mapM_cons, List.mapM_nil, Option.bind, e]
    · rw [CL, calls_at (F := f12.fd) rfl]
      simp only [f12, run_def, b12, Fd.enter]
      simp [leave, store, setAt, rdk, idxO, cmpO,  put, puts, keeps, keep, toVr, putAll, open_eq, Tg.to, rd, fz, callO, Ag.slots, Ag.avs, Ag.back, isA, hold, bltD, idxD, List.mapM_cons, List.mapM_nil, Option.bind, e]
    · rw [CL, calls_at (F := f13.fd) rfl]
      simp only [f13, run_def, b13, Fd.enter]
      simp [leave, store, setAt, rdk, idxO, cmpO,  put, puts, keeps, keep, toVr, putAll, open_eq, Tg.to, rd, fz, callO, Ag.slots, Ag.avs, Ag.back, isA, hold, bltD, idxD, List.mapM_cons, List.mapM_nil, Option.bind, e]
    · rw [CL, calls_at (F := f14.fd) rfl]
      simp only [f14, run_def, b14, Fd.enter]
      simp [leave, store, setAt, rdk, idxO, cmpO,  put, puts, keeps, keep, toVr, putAll, open_eq, Tg.to, rd, fz, callO, Ag.slots, Ag.avs, Ag.back, isA, hold, bltD, idxD, List.mapM_cons, List.mapM_nil, Option.bind, e]
  rw [CL, calls_at (F := f23.fd) rfl]
  simp only [f23, run_def, b23, Fd.enter]
  rcases (show a = 0 ∨ a = 1 ∨ a = 2 ∨ a = 3 by omega) with rfl | rfl | rfl | rfl
  · simp [leave, store, setAt, rdk, idxO, cmpO,  put, puts, keeps, keep, toVr, putAll, open_eq, Tg.to, rd, fz, callO, Ag.slots, Ag.avs, Ag.back, isA, hold, bltD, idxD, List.mapM_cons, List.mapM_nil, Option.bind, f 11 (by simp)]
  · simp [leave, store, setAt, rdk, idxO, cmpO,  put, puts, keeps, keep, toVr, putAll, open_eq, Tg.to, rd, fz, callO, Ag.slots, Ag.avs, Ag.back, isA, hold, bltD, idxD, List.mapM_cons, List.mapM_nil, Option.bind, f 12 (by simp)]
  · simp [leave, store, setAt, rdk, idxO, cmpO,  put, puts, keeps, keep, toVr, putAll, open_eq, Tg.to, rd, fz, callO, Ag.slots, Ag.avs, Ag.back, isA, hold, bltD, idxD, List.mapM_cons, List.mapM_nil, Option.bind, f 13 (by simp)]
  · simp [leave, store, setAt, rdk, idxO, cmpO,  put, puts, keeps, keep, toVr, putAll, open_eq, Tg.to, rd, fz, callO, Ag.slots, Ag.avs, Ag.back, isA, hold, bltD, idxD, List.mapM_cons, List.mapM_nil, Option.bind, f 14 (by simp)]
theorem refused_spec (n : Nat) {k d : Nat} {x : PyData} (h : Bn k d x) (hk : k ≤ 100) (hd : d ≤ 50) {a : Int} (a0 : 0 ≤ a) (a1 : a < 4) : CL (n + 7) 24 [.d (.int a), .d x] = .ret (.d (.bool true)) [.d (.int a), .d x] := by
  have e := call_bad n h hk a0 a1
  have s := same_spec (n + 5) x h.fi (by have := h.nd; omega) (by have := h.dp; omega)
  have t : runSs tb.U (CL (n + 6)) b24_t0 [.d (.int a), .d x, .d .none, .no] = .exc 1 x [.d (.int a), .d x, .d .none, .no] := by
    simp [leave, store, setAt, rdk, idxO, cmpO,  put, puts, keeps, keep, toVr, putAll, open_eq, Tg.to, rd, fz, callO, Ag.slots, Ag.avs, Ag.back, isA, hold, bltD, idxD, List.mapM_cons, List.mapM_nil, Option.bind, b24_t0, e]
  rw [CL, calls_at (F := f24.fd) rfl]
  simp only [f24, run_def, b24, Fd.enter]
  simp [leave, store, setAt, rdk, idxO, cmpO,  put, puts, keeps, keep, toVr, putAll, open_eq, Tg.to, rd, fz, callO, Ag.slots, Ag.avs, Ag.back, isA, hold, bltD, idxD, List.mapM_cons, List.mapM_nil, Option.bind, t, caughtO, excSub, s]
end W

set_option linter.all false
set_option maxRecDepth 100000
namespace W
open PySem Ev Lib
structure Tt (t : Tm) : Prop where
  bd : bdT t = true
  ct : cnt t ≤ 40
theorem Tt.ok {t : Tm} (h : Tt t) : okT t = true := bd_ok t h.bd
theorem Tt.dp {t : Tm} (h : Tt t) : dep t ≤ 40 := Nat.le_trans (dep_cnt t) h.ct
def dueD (t : Tm) : PyData := .list [.int (cnt t), .bool (!decide (plc t = 0)), optD (plc t), optD (iso t)]
theorem fine_opt {i : Int} (h0 : -1 ≤ i) (h1 : i < 10 ^ 35) : fineE (optD i) = true ∧ nd (optD i) = 1 ∧ (optD i).depth = 0 := by
  by_cases c : i < 0
  · simp [optD, c, fineE, nd, PyData.depth]
  · refine ⟨?_, by simp [optD, c, nd], by simp [optD, c, PyData.depth]⟩
    simp only [optD, c, if_false, fineE, Bool.and_eq_true, decide_eq_true_eq]; omega
theorem due_ok {t : Tm} (h : Tt t) : fineE (dueD t) = true ∧ nd (dueD t) ≤ 1000 ∧ (dueD t).depth ≤ 64 := by
  have h1 := plc_lo t h.ok
  have h2 := plc_hi t h.bd
  have h3 := iso_lo t h.ok
  have h4 := iso_hi t h.bd
  have hc := h.ct
  obtain ⟨a1, a2, a3⟩ := fine_opt h1 (by omega)
  obtain ⟨b1, b2, b3⟩ := fine_opt h3 (by omega)
  have c1 : fineE (.int (cnt t : Nat)) = true := by simp only [fineE, Bool.and_eq_true, decide_eq_true_eq]; omega
  refine ⟨?_, by simp [dueD, nd, nds, a2, b2], by simp [dueD, PyData.depth, PyData.depthAll, a3, b3]⟩
  simp only [dueD, fineE, finesE, a1, b1, Bool.and_true, Bool.and_self]
  simpa only [fineE] using c1
section
variable {n : Nat}
theorem s0 (ns : List Int) (hl : ns.length ≤ 63) (p : Int) (h0 : 0 ≤ p) (v2 v3 v4 v5 v6 v7 v8 v9 v10 : Vr) (h2 : freeB v2 = true) :
    ∃ w, Spr w ∧ runS tb.U (CL (n + 60)) b25_s0 [.d (.list (ns.map .int)), .d (.int p), v2, v3, v4, v5, v6, v7, v8, v9, v10] = .ok .nx [.d (.list (ns.map .int)), .d (.int p), .o false false (.lst w), v3, v4, v5, v6, v7, v8, v9, v10] := by
  obtain ⟨w, e, h⟩ := spring_spec (n + 59) ns hl p h0
  exact ⟨w, h, by simp [leave, store, setAt, rdk, idxO, cmpO,  put, puts, keeps, keep, toVr, putAll, open_eq, Tg.to, rd, fz, callO, Ag.slots, Ag.avs, Ag.back, isA, hold, bltD, idxD, List.mapM_cons, List.mapM_nil, Option.bind, b25_s0, e, h2]⟩
theorem s1 {w : List PyData} (hw : Spr w) (S P v3 v4 v5 v6 v7 v8 v9 v10 : Vr) (h3 : freeB v3 = true) :
    ∃ w' a, Spr w' ∧ 0 ≤ a ∧ a < 4 ∧ runS tb.U (CL (n + 60)) b25_s1 [S, P, .o false false (.lst w), v3, v4, v5, v6, v7, v8, v9, v10] = .ok .nx [S, P, .o false false (.lst w'), .d (.int a), v4, v5, v6, v7, v8, v9, v10] := by
  obtain ⟨r, w', e, r0, r1, g⟩ := draw_spec (n + 59) hw (m := 4) (by decide) (by decide)
  exact ⟨w', r, g, r0, r1, by simp [leave, store, setAt, rdk, idxO, cmpO,  put, puts, keeps, keep, toVr, putAll, open_eq, Tg.to, rd, fz, callO, Ag.slots, Ag.avs, Ag.back, isA, hold, bltD, idxD, List.mapM_cons, List.mapM_nil, Option.bind, b25_s1, e, h3]⟩
theorem s2 {w : List PyData} (hw : Spr w) (S P v3 v4 v5 v6 v7 v8 v9 v10 : Vr) (h4 : freeB v4 = true) :
    ∃ w' x, Spr w' ∧ Bn 0 0 x ∧ runS tb.U (CL (n + 60)) b25_s2 [S, P, .o false false (.lst w), v3, v4, v5, v6, v7, v8, v9, v10] = .ok .nx [S, P, .o false false (.lst w'), v3, .d x, v5, v6, v7, v8, v9, v10] := by
  obtain ⟨x, w', e, g, hb⟩ := odd_spec (n + 58) hw
  simp only [TT] at e
  refine ⟨w', x, g, hb, ?_⟩
  clear hb
  simp [leave, store, setAt, rdk, idxO, cmpO,  put, puts, keeps, keep, toVr, putAll, open_eq, Tg.to, rd, fz, callO, Ag.slots, Ag.avs, Ag.back, isA, hold, bltD, idxD, List.mapM_cons, List.mapM_nil, Option.bind, b25_s2, e, h4]
theorem s3 {w : List PyData} (hw : Spr w) (S P v3 v4 v5 v6 v7 v8 v9 v10 : Vr) (h5 : freeB v5 = true) :
    ∃ w' t, Spr w' ∧ Tt t ∧ runS tb.U (CL (n + 60)) b25_s3 [S, P, .o false false (.lst w), v3, v4, v5, v6, v7, v8, v9, v10] = .ok .nx [S, P, .o false false (.lst w'), v3, v4, .d (enc t), v6, v7, v8, v9, v10] := by
  obtain ⟨r, w1, e1, r0, r1, g1⟩ := draw_spec (n + 59) hw (m := 40) (by decide) (by decide)
  obtain ⟨t, w2, e2, g2, hb, hc⟩ := tm_spec 40 (by omega) (1 + r).toNat (n + 60) 6 1000000000000000000000000000000 w1 (by omega) (by omega) (by omega) (by decide) (by decide) g1
  rw [show (((1 + r).toNat : Nat) : Int) = 1 + r by omega] at e2
  refine ⟨w2, t, g2, ⟨hb, by omega⟩, ?_⟩
  simp [leave, store, setAt, rdk, idxO, cmpO,  put, puts, keeps, keep, toVr, putAll, open_eq, Tg.to, rd, fz, callO, Ag.slots, Ag.avs, Ag.back, isA, hold, bltD, idxD, List.mapM_cons, List.mapM_nil, Option.bind, b25_s3, e1, p30, e2, h5]
theorem s4 {w : List PyData} (hw : Spr w) {t : Tm} (ht : Tt t) {x : PyData} (hx : Bn 0 0 x) (S P v3 v6 v7 v8 v9 v10 : Vr) (h6 : freeB v6 = true) :
    ∃ w' y, Spr w' ∧ Bn (cnt t) (dep t) y ∧ runS tb.U (CL (n + 60)) b25_s4 [S, P, .o false false (.lst w), v3, .d x, .d (enc t), v6, v7, v8, v9, v10] = .ok .nx [S, P, .o false false (.lst w'), v3, .d x, .d (enc t), .d y, v7, v8, v9, v10] := by
  have hd := ht.dp
  have hc := ht.ct
  obtain ⟨y, w', e, g, hy⟩ := put_spec (dep t) t (Nat.le_refl _) ht.bd (by omega) (n + 60) w x (by omega) hw hx
  refine ⟨w', y, g, hy, ?_⟩
  clear hy hx
  simp [leave, store, setAt, rdk, idxO, cmpO,  put, puts, keeps, keep, toVr, putAll, open_eq, Tg.to, rd, fz, callO, Ag.slots, Ag.avs, Ag.back, isA, hold, bltD, idxD, List.mapM_cons, List.mapM_nil, Option.bind, b25_s4, e, h6]
theorem s5 {t : Tm} (ht : Tt t) {y : PyData} (hy : Bn (cnt t) (dep t) y) (S P v2 v3 v4 v7 v8 v9 v10 : Vr) :
    runS tb.U (CL (n + 60)) b25_s5 [S, P, v2, v3, v4, .d (enc t), .d y, v7, v8, v9, v10] = .ok .nx [S, P, v2, v3, v4, .d (enc t), .d y, v7, v8, v9, v10] := by
  have hc := ht.ct
  obtain ⟨c, hcc, hb⟩ := hy.bd
  have e1 := term_in_spec (n + 56) t ht.ok (by omega)
  have e2 := bd_in (n + 56) hb (by omega)
  have g1 : CL (n + 60) 10 [.d (enc t)] = .ret (.d (.bool true)) [.d (enc t)] := by
    rw [CL, calls_at (F := f10.fd) rfl]
    simp only [f10, run_def, b10, Fd.enter]
    simp [leave, store, setAt, rdk, idxO, cmpO,  put, puts, keeps, keep, toVr, putAll, open_eq, Tg.to, rd, fz, callO, Ag.slots, Ag.avs, Ag.back, isA, hold, bltD, idxD, List.mapM_cons, List.mapM_nil, Option.bind, e1]
  have g2 : CL (n + 60) 10 [.d y] = .ret (.d (.bool false)) [.d y] := by
    rw [CL, calls_at (F := f10.fd) rfl]
    simp only [f10, run_def, b10, Fd.enter]
    simp [leave, store, setAt, rdk, idxO, cmpO,  put, puts, keeps, keep, toVr, putAll, open_eq, Tg.to, rd, fz, callO, Ag.slots, Ag.avs, Ag.back, isA, hold, bltD, idxD, List.mapM_cons, List.mapM_nil, Option.bind, e2]
  have i1 : cmpD .IsNot (.bool true) (.bool true) = some false := rfl
  have i2 : cmpD .IsNot (.bool false) (.bool false) = some false := rfl
  clear hb hy
  simp [leave, store, setAt, rdk, idxO, cmpO,  put, puts, keeps, keep, toVr, putAll, open_eq, Tg.to, rd, fz, callO, Ag.slots, Ag.avs, Ag.back, isA, hold, bltD, idxD, List.mapM_cons, List.mapM_nil, Option.bind, b25_s5, g1, g2, i1, i2]
theorem s6 {t : Tm} (ht : Tt t) (S P v2 v3 v4 v6 v7 v8 v9 v10 : Vr) (h9 : freeB v9 = true) (h10 : freeB v10 = true) :
    runS tb.U (CL (n + 60)) b25_s6 [S, P, v2, v3, v4, .d (enc t), v6, v7, v8, v9, v10] = .ok .nx [S, P, v2, v3, v4, .d (enc t), v6, v7, v8, .d (.int (plc t)), .d (.int (iso t))] := by
  have hd := ht.dp
  have hc := ht.ct
  have e := count_spec (dep t) t (Nat.le_refl _) ht.ok (by omega) (n + 60) (by omega)
  simp [leave, store, setAt, rdk, idxO, cmpO,  put, puts, keeps, keep, toVr, putAll, open_eq, Tg.to, rd, fz, callO, Ag.slots, Ag.avs, Ag.back, isA, hold, bltD, idxD, List.mapM_cons, List.mapM_nil, Option.bind, b25_s6, e, puts, h9, h10]
theorem s7 {t : Tm} (ht : Tt t) (S P v2 v3 v4 v6 v7 v8 : Vr) (h7 : freeB v7 = true) :
    runS tb.U (CL (n + 60)) b25_s7 [S, P, v2, v3, v4, .d (enc t), v6, v7, v8, .d (.int (plc t)), .d (.int (iso t))] = .ok .nx [S, P, v2, v3, v4, .d (enc t), v6, .o false false (.lst [.int (cnt t), .bool (!decide (plc t = 0)), optD (plc t), optD (iso t)]), v8, .d (.int (plc t)), .d (.int (iso t))] := by
  have hd := ht.dp
  have hc := ht.ct
  have e := signs_spec (dep t) t (Nat.le_refl _) (by omega) (n + 60) (by omega)
  obtain ⟨C, hC⟩ : ∃ C : Int, C = cnt t := ⟨_, rfl⟩
  rw [← hC] at e ⊢
  generalize plc t = p
  generalize iso t = q
  have dn : decide (p ≠ 0) = !decide (p = 0) := by
    by_cases c : p = 0 <;> simp [c]
  by_cases c1 : p < 0
  · by_cases c2 : q < 0
    · simp [leave, store, setAt, rdk, idxO, cmpO,  put, puts, keeps, keep, toVr, putAll, open_eq, Tg.to, rd, fz, callO, Ag.slots, Ag.avs, Ag.back, isA, hold, bltD, idxD, List.mapM_cons, List.mapM_nil, Option.bind, b25_s7, e, h7, optD, c1, c2] <;> rfl
    · simp [leave, store, setAt, rdk, idxO, cmpO,  put, puts, keeps, keep, toVr, putAll, open_eq, Tg.to, rd, fz, callO, Ag.slots, Ag.avs, Ag.back, isA, hold, bltD, idxD, List.mapM_cons, List.mapM_nil, Option.bind, b25_s7, e, h7, optD, c1, c2] <;> rfl
  · by_cases c2 : q < 0
    · simp [leave, store, setAt, rdk, idxO, cmpO,  put, puts, keeps, keep, toVr, putAll, open_eq, Tg.to, rd, fz, callO, Ag.slots, Ag.avs, Ag.back, isA, hold, bltD, idxD, List.mapM_cons, List.mapM_nil, Option.bind, b25_s7, e, h7, optD, c1, c2] <;> rfl
    · simp [leave, store, setAt, rdk, idxO, cmpO,  put, puts, keeps, keep, toVr, putAll, open_eq, Tg.to, rd, fz, callO, Ag.slots, Ag.avs, Ag.back, isA, hold, bltD, idxD, List.mapM_cons, List.mapM_nil, Option.bind, b25_s7, e, h7, optD, c1, c2] <;> rfl
theorem s8 {t : Tm} (ht : Tt t) (S P v2 v3 v4 v6 v7 v8 v9 v10 : Vr) (h8 : freeB v8 = true) :
    runS tb.U (CL (n + 60)) b25_s8 [S, P, v2, v3, v4, .d (enc t), v6, v7, v8, v9, v10] = .ok .nx [S, P, v2, v3, v4, .d (enc t), v6, v7, .o false false (.lst [.int (cnt t), .bool (!decide (plc t = 0)), optD (plc t), optD (iso t)]), v9, v10] := by
  have hd := ht.dp
  have hc := ht.ct
  have e0 := check_term_spec (n + 55) t ht.ok (by omega)
  have e1 := signsIn_spec (dep t) t (Nat.le_refl _) (by omega) (n + 59) (by omega)
  have e2 := hp_spec (dep t) t (Nat.le_refl _) ht.ok (by omega) (n + 59) (by omega)
  have e3 := p_spec (dep t) t (Nat.le_refl _) ht.ok (by omega) (n + 59) (by omega)
  have e4 := i_spec (dep t) t (Nat.le_refl _) ht.ok (by omega) (n + 59) (by omega)
  have g1 : CL (n + 60) 11 [.d (enc t)] = .ret (.d (.int (cnt t))) [.d (enc t)] := by
    rw [CL, calls_at (F := f11.fd) rfl]
    simp only [f11, run_def, b11, Fd.enter]
    simp [leave, store, setAt, rdk, idxO, cmpO,  put, puts, keeps, keep, toVr, putAll, open_eq, Tg.to, rd, fz, callO, Ag.slots, Ag.avs, Ag.back, isA, hold, bltD, idxD, List.mapM_cons, List.mapM_nil, Option.bind, e0, e1]
  have g2 : CL (n + 60) 12 [.d (enc t)] = .ret (.d (.bool (!decide (plc t = 0)))) [.d (enc t)] := by
    rw [CL, calls_at (F := f12.fd) rfl]
    simp only [f12, run_def, b12, Fd.enter]
    simp [leave, store, setAt, rdk, idxO, cmpO,  put, puts, keeps, keep, toVr, putAll, open_eq, Tg.to, rd, fz, callO, Ag.slots, Ag.avs, Ag.back, isA, hold, bltD, idxD, List.mapM_cons, List.mapM_nil, Option.bind, e0, e2]
  have g3 : CL (n + 60) 13 [.d (enc t)] = .ret (.d (optD (plc t))) [.d (enc t)] := by
    rw [CL, calls_at (F := f13.fd) rfl]
    simp only [f13, run_def, b13, Fd.enter]
    simp [leave, store, setAt, rdk, idxO, cmpO,  put, puts, keeps, keep, toVr, putAll, open_eq, Tg.to, rd, fz, callO, Ag.slots, Ag.avs, Ag.back, isA, hold, bltD, idxD, List.mapM_cons, List.mapM_nil, Option.bind, e0, e3]
  have g4 : CL (n + 60) 14 [.d (enc t)] = .ret (.d (optD (iso t))) [.d (enc t)] := by
    rw [CL, calls_at (F := f14.fd) rfl]
    simp only [f14, run_def, b14, Fd.enter]
    simp [leave, store, setAt, rdk, idxO, cmpO,  put, puts, keeps, keep, toVr, putAll, open_eq, Tg.to, rd, fz, callO, Ag.slots, Ag.avs, Ag.back, isA, hold, bltD, idxD, List.mapM_cons, List.mapM_nil, Option.bind, e0, e4]
  generalize (PyData.bool (!decide (plc t = 0))) = B at *
  generalize optD (plc t) = O1 at *
  generalize optD (iso t) = O2 at *
  simp [leave, store, setAt, rdk, idxO, cmpO,  put, puts, keeps, keep, toVr, putAll, open_eq, Tg.to, rd, fz, callO, Ag.slots, Ag.avs, Ag.back, isA, hold, bltD, idxD, List.mapM_cons, List.mapM_nil, Option.bind, b25_s8, g1, g2, g3, g4, h8]
theorem s9 {t : Tm} (ht : Tt t) (S P v2 v3 v4 v5 v6 v9 v10 : Vr) :
    runS tb.U (CL (n + 60)) b25_s9 [S, P, v2, v3, v4, v5, v6, .o false false (.lst [.int (cnt t), .bool (!decide (plc t = 0)), optD (plc t), optD (iso t)]), .o false false (.lst [.int (cnt t), .bool (!decide (plc t = 0)), optD (plc t), optD (iso t)]), v9, v10] = .ok .nx [S, P, v2, v3, v4, v5, v6, .d (dueD t), .d (dueD t), v9, v10] := by
  obtain ⟨a, b, c⟩ := due_ok ht
  have e := same_spec (n + 59) (dueD t) a b c
  simp only [dueD] at *
  generalize [PyData.int (cnt t), .bool (!decide (plc t = 0)), optD (plc t), optD (iso t)] = xs at *
  simp [leave, store, setAt, rdk, idxO, cmpO,  put, puts, keeps, keep, toVr, putAll, open_eq, Tg.to, rd, fz, callO, Ag.slots, Ag.avs, Ag.back, isA, hold, bltD, idxD, List.mapM_cons, List.mapM_nil, Option.bind, b25_s9, e]
theorem s10 {t : Tm} (ht : Tt t) {x y : PyData} (hx : Bn 0 0 x) (hy : Bn (cnt t) (dep t) y) {a : Int} (a0 : 0 ≤ a) (a1 : a < 4) (p : Int) (h0 : 0 ≤ p) (S v2 v5 v7 v8 v9 v10 : Vr) :
    runS tb.U (CL (n + 60)) b25_s10 [S, .d (.int p), v2, .d (.int a), .d x, v5, .d y, v7, v8, v9, v10] = .ok .nx [S, .d (.int p), v2, .d (.int a), .d x, v5, .d y, v7, v8, v9, v10] := by
  have hd := ht.dp
  have hc := ht.ct
  have e1 := refused_spec (n + 53) hy (by omega) (by omega) a0 a1
  obtain ⟨b, hb⟩ : ∃ b : Int, b = (a + 1 + p) % 4 := ⟨_, rfl⟩
  have e2 := refused_spec (n + 53) hx (by omega) (by omega) (a := b) (by omega) (by omega)
  clear hx hy
  simp [leave, store, setAt, rdk, idxO, cmpO,  put, puts, keeps, keep, toVr, putAll, open_eq, Tg.to, rd, fz, callO, Ag.slots, Ag.avs, Ag.back, isA, hold, bltD, idxD, List.mapM_cons, List.mapM_nil, Option.bind, b25_s10, e1, bin_mod, ← hb, e2]
end
theorem turn (n : Nat) (ns : List Int) (hl : ns.length ≤ 63) (p : Int) (h0 : 0 ≤ p) (v2 v3 v4 v5 v6 v7 v8 v9 v10 : Vr) (h2 : freeB v2 = true) (h3 : freeB v3 = true) (h4 : freeB v4 = true) (h5 : freeB v5 = true) (h6 : freeB v6 = true) (h7 : freeB v7 = true) (h8 : freeB v8 = true) (h9 : freeB v9 = true) (h10 : freeB v10 = true) :
    ∃ u2 u3 u4 u5 u6 u7 u8 u9 u10, runSs tb.U (CL (n + 60)) b25_b0 [.d (.list (ns.map .int)), .d (.int p), v2, v3, v4, v5, v6, v7, v8, v9, v10] = .ok .nx [.d (.list (ns.map .int)), .d (.int p), u2, u3, u4, u5, u6, u7, u8, u9, u10] ∧ freeB u2 = true ∧ freeB u3 = true ∧ freeB u4 = true ∧ freeB u5 = true ∧ freeB u6 = true ∧ freeB u7 = true ∧ freeB u8 = true ∧ freeB u9 = true ∧ freeB u10 = true := by
  obtain ⟨w0, hw0, r0⟩ := s0 (n := n) ns hl p h0 v2 v3 v4 v5 v6 v7 v8 v9 v10 h2
  obtain ⟨w1, a, hw1, a0, a1, r1⟩ := s1 (n := n) hw0 (.d (.list (ns.map .int))) (.d (.int p)) v3 v4 v5 v6 v7 v8 v9 v10 h3
  obtain ⟨w2, x, hw2, hx, r2⟩ := s2 (n := n) hw1 (.d (.list (ns.map .int))) (.d (.int p)) (.d (.int a)) v4 v5 v6 v7 v8 v9 v10 h4
  obtain ⟨w3, t, hw3, ht, r3⟩ := s3 (n := n) hw2 (.d (.list (ns.map .int))) (.d (.int p)) (.d (.int a)) (.d x) v5 v6 v7 v8 v9 v10 h5
  obtain ⟨w4, y, hw4, hy, r4⟩ := s4 (n := n) hw3 ht hx (.d (.list (ns.map .int))) (.d (.int p)) (.d (.int a)) v6 v7 v8 v9 v10 h6
  refine ⟨.o false false (.lst w4), .d (.int a), .d x, .d (enc t), .d y, .d (dueD t), .d (dueD t), .d (.int (plc t)), .d (.int (iso t)), ?_, rfl, rfl, rfl, rfl, rfl, rfl, rfl, rfl, rfl⟩
  unfold b25_b0
  exact (run_nx r0).trans ((run_nx r1).trans ((run_nx r2).trans ((run_nx r3).trans ((run_nx r4).trans ((run_nx (s5 ht hy _ _ _ _ _ _ _ _ _)).trans ((run_nx (s6 ht _ _ _ _ _ _ _ _ _ _ h9 h10)).trans ((run_nx (s7 ht _ _ _ _ _ _ _ _ h7)).trans ((run_nx (s8 ht _ _ _ _ _ _ _ _ _ _ h8)).trans ((run_nx (s9 ht _ _ _ _ _ _ _ _ _)).trans ((run_nx (s10 ht hx hy a0 a1 p h0 _ _ _ _ _ _ _)).trans run_end))))))))))
theorem law00 (ns : List Int) (hl : ns.length ≤ 63) (_ : ∀ z ∈ ns, Builtin.Int.intBits z ≤ 1048576) : ∃ fin, calls tb.U (fdsOf fs) 71 25 [.d (.list (ns.map .int))] = .ret (.d (.bool true)) fin := by
  have hz : ns.length ≤ sizeLine := by unfold sizeLine; omega
  obtain ⟨L, hL⟩ : ∃ L : Int, L = ns.length := ⟨_, rfl⟩
  have hn : lenD [.list (ns.map .int)] = some (.d (.int L)) := by simp [lenD, hz, hL]
  obtain ⟨T, hT, T0, T1⟩ : ∃ T : Int, maxD [.int 1, .int (if L < 6 then L else 6)] = some (.d (.int T)) ∧ 0 ≤ T ∧ T ≤ 6 := by
    simp only [maxD]
    refine ⟨_, rfl, ?_, ?_⟩ <;> split <;> split <;> omega
  have hmin : minD [.int 6, .int L] = some (.d (.int (if L < 6 then L else 6))) := rfl
  have hs : small T = true := by simp [small]; omega
  have loop := forE_rel (U := tb.U) (C := CL 70) (tg := .nm 1) (b := b25_b0) (xs := up 0 T.toNat) (ρ := [.d (.list (ns.map .int)), .no, .no, .no, .no, .no, .no, .no, .no, .no, .no])
    (I := fun _ ρ => ∃ v1 v2 v3 v4 v5 v6 v7 v8 v9 v10, ρ = [.d (.list (ns.map .int)), v1, v2, v3, v4, v5, v6, v7, v8, v9, v10] ∧ freeB v1 = true ∧ freeB v2 = true ∧ freeB v3 = true ∧ freeB v4 = true ∧ freeB v5 = true ∧ freeB v6 = true ∧ freeB v7 = true ∧ freeB v8 = true ∧ freeB v9 = true ∧ freeB v10 = true) ⟨_, _, _, _, _, _, _, _, _, _, rfl, rfl, rfl, rfl, rfl, rfl, rfl, rfl, rfl, rfl, rfl⟩ (by
      rintro x r ρ hx ⟨v1, v2, v3, v4, v5, v6, v7, v8, v9, v10, rfl, h1, h2, h3, h4, h5, h6, h7, h8, h9, h10⟩
      obtain ⟨i, hi, rfl⟩ := up_mem hx
      obtain ⟨p, hp⟩ : ∃ p : Int, p = 0 + (i : Int) := ⟨_, rfl⟩
      rw [← hp]
      obtain ⟨u2, u3, u4, u5, u6, u7, u8, u9, u10, e, q⟩ := turn 10 ns hl p (by omega) v2 v3 v4 v5 v6 v7 v8 v9 v10 h2 h3 h4 h5 h6 h7 h8 h9 h10
      exact ⟨[.d (.list (ns.map .int)), .d (.int p), v2, v3, v4, v5, v6, v7, v8, v9, v10], [.d (.list (ns.map .int)), .d (.int p), u2, u3, u4, u5, u6, u7, u8, u9, u10], by simp [leave, store, setAt, rdk, idxO, cmpO,  put, puts, keeps, keep, toVr, putAll, open_eq, Tg.to, rd, fz, callO, Ag.slots, Ag.avs, Ag.back, isA, hold, bltD, idxD, List.mapM_cons, List.mapM_nil, Option.bind, h1], .inl e, _, _, _, _, _, _, _, _, _, _, rfl, rfl, q⟩)
  obtain ⟨ρ', e, v1, v2, v3, v4, v5, v6, v7, v8, v9, v10, rfl, _⟩ := loop
  refine ⟨[.d (.list (ns.map .int))], ?_⟩
  show CL 71 25 _ = _
  rw [CL, calls_at (F := f25.fd) rfl]
  simp only [f25, run_def, b25, Fd.enter]
  simp [leave, store, setAt, rdk, idxO, cmpO,  put, puts, keeps, keep, toVr, putAll, open_eq, Tg.to, rd, fz, callO, Ag.slots, Ag.avs, Ag.back, isA, hold, bltD, idxD, List.mapM_cons, List.mapM_nil, Option.bind, hn, hmin, hT, hs, e]
end W

open PySem PySem.W PyProof.Rows
set_option maxRecDepth 100000 in
set_option maxHeartbeats 0 in
theorem PySem.Challenge.cw_wholeparts_k00_whole_terms_formed_and_me_holds : PySem.Challenge.rw_wholeparts_k00_whole_terms_formed_and_me.Holds := by
  w_on; o_law; k_head; (case hw => w_witness2)
  k_fill
  refine Ev.walkT (l := PySem.Challenge.rw_wholeparts_k00_whole_terms_formed_and_me) (m := 63) (n := 71) (i := 25) (T := W.tb) (fs := W.fs) (f := W.f25) (x := "script") rfl (by decide) rfl ⟨rfl, by decide, by decide⟩ (fun w h Y => PySem.W.kIn_of Y) rfl rfl W.okAll W.bindAll W.bindwAll rfl rfl rfl ?top W.law00 (st := W.initSt)
  case top =>
    intro w
    refine ⟨?fns, ?bls, ?dat, ?dic, ?exs, ?all, ?sub⟩
    case bls =>
      refine Ev.all_cons ?_ (Ev.all_cons ?_ (Ev.all_cons ?_ (Ev.all_cons ?_ (Ev.all_cons ?_ (Ev.all_cons ?_ (Ev.all_cons ?_ (Ev.all_cons ?_ (Ev.all_cons ?_ (Ev.all_cons ?_ (Ev.all_cons ?_ (Ev.all_cons ?_ (Ev.all_cons ?_ (Ev.all_cons ?_ (Ev.all_cons ?_ Ev.all_nil))))))))))))))
      all_goals k_is
    case dat =>
      refine Ev.all_cons ?_ Ev.all_nil
      all_goals (refine' Ev.datIn_mk ?a ?b; (case a => k_is); (case b => kernel_rfl))
    case dic => exact Ev.all_nil
    case fns =>
      refine Ev.all_cons ?_ (Ev.all_cons ?_ (Ev.all_cons ?_ (Ev.all_cons ?_ (Ev.all_cons ?_ (Ev.all_cons ?_ (Ev.all_cons ?_ (Ev.all_cons ?_ (Ev.all_cons ?_ (Ev.all_cons ?_ (Ev.all_cons ?_ (Ev.all_cons ?_ (Ev.all_cons ?_ (Ev.all_cons ?_ (Ev.all_cons ?_ (Ev.all_cons ?_ (Ev.all_cons ?_ (Ev.all_cons ?_ (Ev.all_cons ?_ (Ev.all_cons ?_ (Ev.all_cons ?_ (Ev.all_cons ?_ (Ev.all_cons ?_ (Ev.all_cons ?_ (Ev.all_cons ?_ (Ev.all_cons ?_ Ev.all_nil)))))))))))))))))))))))))
      all_goals (refine' Ev.fnIn_mk ?a ?l ?c ?k; (case a => k_is); (case l => k_is); (case c => k_is); (case k => k_is))
    case exs =>
      refine Ev.all_cons ?_ (Ev.all_cons ?_ (Ev.all_cons ?_ Ev.all_nil))
      all_goals (refine' Ev.errIn_mk ?hx ?a ?l ?r ?i ?m ?cd ?e W.initBinds W.initIs ?ve ?vV; (case hx => rfl); (case a => k_is); (case l => k_is); (case r => decide +kernel); (case i => k_is); (case m => k_is); (case cd => k_is); (case e => kernel_rfl); (case ve => k_is); (case vV => k_is))
    case all => kernel_rfl
    case sub => kernel_rfl

