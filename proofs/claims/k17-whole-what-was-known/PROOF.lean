import PyProof.Rows.All
import PySem.Syntax
import PyProof.P3Statements
import PyProof.EqLayable
import PySem.Eval
import HandS.Comp
import HandS.Lambda
import Wide.All
import OpenK.AllK
import Wide.FinOn
import HandS.ForMost
import HandS.ForExc
import HandS.HeadHook1
import HandS.TupAny
import HandS.TupMul
import HandS.Wide
import HandS.Deep
import HandS.IsInst
import HandS.SortInts
import HandS.SortKw
import KE.DatumOrd
import HandS.HeadWalk
import HandS.Defaults
import HandS.ExcCtx
import HandS.Zip
import HandS.Conv
import HandS.Style
import KE.GoesEnum
import HandS.Iter
import HandS.HotCalls
import HandS.ExcIs
import HandS.ExcBuiltin
import HandS.Head0
import HandS.Head1
import HandS.Head2
import HandS.HeadEnd
import HandS.HeadHook2
import HandS.HeadHook3
import HandS.HeadHook4
import PySem.Challenge.RW_crossmail_k17_whole_what_was_known
set_option linter.all false
set_option maxRecDepth 100000
/-! Data, an abstract heap, results; a compiler from the model's syntax to plain functions. -/
namespace Cr
open PySem

/-- a value: trees for tuples and for lists that nobody changes; `ref n`: the n-th thing of the abstract heap -/
inductive D where
  | non
  | bl (b : Bool)
  | int (i : Int)
  | str (x : Str)
  | tup (l : List D)
  | lst (l : List D)
  | ref (n : Nat)
  /-- the script, handed in from outside -/
  | scr (l : List Int)
  deriving Inhabited

abbrev Key := Sum Int Str

inductive Cell where
  | lst (l : List D)
  | dct (lk : Bool) (kvs : List (List Key × D))
  | ins (c : Str) (fs : List (Str × D))
  deriving Inhabited

abbrev AH := List Cell

inductive R (α : Type) where
  | ok (a : α) (h : AH)
  | exc (c : Str) (h : AH)
  | stuck
  deriving Inhabited

abbrev M (α : Type) := AH → R α
@[reducible] def M.pure {α : Type} (a : α) : M α := fun h => .ok a h
def M.bind {α β : Type} (x : M α) (f : α → M β) : M β := fun h => match x h with
  | .ok a h' => f a h'
  | .exc c h' => .exc c h'
  | .stuck => .stuck
def M.stuck {α : Type} : M α := fun _ => .stuck
def M.raise {α : Type} (c : Str) : M α := fun h => .exc c h
instance : Monad M where
  pure := M.pure
  bind := M.bind
/-- nothing is raised -/
def M.nox {α : Type} (x : M α) : M α := fun h => match x h with
  | .exc _ _ => .stuck
  | r => r

abbrev Env := List (Option D)
abbrev Ora := Str × Option Str → List D → M D

/-- a statement's end -/
inductive RS where
  | next (ρ : Env) (h : AH)
  | ret (d : D) (h : AH)
  | brk (ρ : Env) (h : AH)
  | cont (ρ : Env) (h : AH)
  | exc (c : Str) (ρ : Env) (h : AH)
  | stuck
  deriving Inhabited

abbrev Cl := Ora → Env → M D
abbrev ClT := Ora → Env → M Bool
abbrev ClL := Ora → Env → M (List D)
abbrev ClS := Ora → Env → AH → RS

/-! ### looks -/
def alloc (c : Cell) : M D := fun h => .ok (.ref h.length) (h ++ [c])
def getC (n : Nat) : M Cell := fun h => match h[n]? with
  | some c => .ok c h
  | none => .stuck
def setC (n : Nat) (c : Cell) : M Unit := fun h => .ok () (h.set n c)
/-- the items of a list or tuple -/
def items : D → M (List D)
  | .tup l => pure l
  | .lst l => pure l
  | .ref n => do
    match ← getC n with
    | .lst l => pure l
    | _ => M.stuck
  | _ => M.stuck
/-- data without references -/
def emb : Nat → AH → D → Option PyData
  | 0, _, _ => none
  | _ + 1, _, .non => some .none
  | _ + 1, _, .bl b => some (.bool b)
  | _ + 1, _, .int i => some (.int i)
  | _ + 1, _, .str x => if PyData.strOk x then some (.str x) else none
  | k + 1, h, .tup l => (l.mapM (emb k h)).map .tuple
  | k + 1, h, .lst l => (l.mapM (emb k h)).map .list
  | k + 1, h, .ref n => match h[n]? with
    | some (.lst l) => (l.mapM (emb k h)).map .list
    | _ => none
  | _ + 1, _, .scr l => some (.list (l.map .int))
def eqM (a b : D) : M Bool := fun h => match emb 8 h a, emb 8 h b with
  | some x, some y => .ok (PyData.eqv x y) h
  | _, _ => .stuck
def isL : D → Bool
  | .lst _ => true
  | .ref _ => true
  | _ => false
/-- most items of a list that is made -/
def most : Nat := 1000000
def toKey : D → Option Key
  | .int i => some (.inl i)
  | .str x => some (.inr x)
  | _ => none
def toKeys : D → Option (List Key)
  | .tup l => l.mapM toKey
  | _ => none
def ofKey : Key → D
  | .inl i => .int i
  | .inr x => .str x
def getK (kvs : List (List Key × D)) (k : List Key) : Option D := (kvs.find? fun p => decide (p.1 = k)).map (·.2)
def putK (kvs : List (List Key × D)) (k : List Key) (d : D) : List (List Key × D) :=
  if kvs.any (fun p => decide (p.1 = k)) then kvs.map (fun p => if p.1 = k then (p.1, d) else p) else kvs ++ [(k, d)]

/-! ### operators -/
def small (i : Int) : Bool := decide (i.natAbs < 2 ^ 64)
def wide (i : Int) : Bool := decide (i.natAbs < 2 ^ 600)
/-- `mk`: whether a new list is one of the heap -/
def newL (mk : Bool) (l : List D) : M D := if mk then alloc (.lst l) else pure (.lst l)
def tupM (l : List D) : M D := if l.length ≤ most then pure (.tup l) else M.stuck
def dispM (mk : Bool) (l : List D) : M D := if l.length ≤ most then newL mk l else M.stuck
def addM (mk : Bool) (a b : D) : M D := match a, b with
  | .int i, .int j => pure (.int (i + j))
  | .str x, .str y => if x.length + y.length ≤ most then pure (.str (x ++ y)) else M.stuck
  | .tup x, .tup y => if x.length + y.length ≤ most then pure (.tup (x ++ y)) else M.stuck
  | a, b => if isL a && isL b then do
      let x ← items a
      let y ← items b
      if x.length + y.length ≤ most then newL mk (x ++ y) else M.stuck
    else M.stuck
def subM (a b : D) : M D := match a, b with
  | .int i, .int j => pure (.int (i - j))
  | _, _ => M.stuck
def mulM (mk : Bool) (a b : D) : M D := match a, b with
  | .int i, .int j => if small i || small j || (wide i && wide j) then pure (.int (i * j)) else M.stuck
  | .tup x, .int k => if k = 1 ∨ x = [] then (if -(2 ^ 63) ≤ k ∧ k < 2 ^ 63 then pure (.tup x) else M.stuck) else if k ≤ 0 then (if -(2 ^ 63) ≤ k then pure (.tup []) else M.stuck)
    else if k ≤ 1000 ∧ x.length ≤ 1000 then pure (.tup (List.replicate k.toNat x).flatten) else M.stuck
  | .lst x, .int k => if x.length * k.toNat ≤ most && decide (-(2 ^ 63) ≤ k) && decide (k < 2 ^ 63) then newL mk (List.replicate k.toNat x).flatten else M.stuck
  | _, _ => M.stuck
def fdivM (a b : D) : M D := match a, b with
  | .int i, .int j => if 0 < j ∧ wide j then pure (.int (i / j)) else M.stuck
  | _, _ => M.stuck
def modM (a b : D) : M D := match a, b with
  | .int i, .int j => if 0 < j then pure (.int (i % j)) else M.stuck
  | _, _ => M.stuck
def powM (a b : D) : M D := match a, b with
  | .int i, .int j => if 0 ≤ j ∧ j ≤ 1000 ∧ small i then pure (.int (i ^ j.toNat)) else M.stuck
  | _, _ => M.stuck
def negM : D → M D
  | .int i => pure (.int (-i))
  | _ => M.stuck
def binM (op : Operator) (mk : Bool) (a b : D) : M D := match op with
  | .Add => addM mk a b
  | .Sub => subM a b
  | .Mult => mulM mk a b
  | .FloorDiv => fdivM a b
  | .Mod => modM a b
  | .Pow => powM a b
  | _ => M.stuck
def cmpI (f : Int → Int → Bool) (a b : D) : M Bool := match a, b with
  | .int i, .int j => pure (f i j)
  | _, _ => M.stuck
def inL (a : D) (l : List D) : M Bool := fun h => match emb 8 h a, l.mapM (emb 8 h) with
  | some x, some ys => .ok (ys.any fun y => PyData.eqv y x) h
  | _, _ => .stuck
def inM (a b : D) : M Bool := match b with
  | .lst l => inL a l
  | .ref n => do
    match ← getC n with
    | .lst l => inL a l
    | .dct _ kvs => match toKeys a with
      | some k => pure (getK kvs k).isSome
      | none => M.stuck
    | _ => M.stuck
  | _ => M.stuck
def isM (a b : D) : M Bool := match b with
  | .non => match a with
    | .non => pure true
    | _ => pure false
  | .bl c => match a with
    | .bl d => pure (d == c)
    | _ => M.stuck
  | _ => M.stuck
def cmpM (op : CmpOp) (a b : D) : M Bool := match op with
  | .Eq => eqM a b
  | .NotEq => do return !(← eqM a b)
  | .Lt => cmpI (fun i j => decide (i < j)) a b
  | .LtE => cmpI (fun i j => decide (i ≤ j)) a b
  | .Gt => cmpI (fun i j => decide (j < i)) a b
  | .GtE => cmpI (fun i j => decide (j ≤ i)) a b
  | .In => inM a b
  | .NotIn => do return !(← inM a b)
  | .Is => isM a b
  | .IsNot => do return !(← isM a b)
/-- the place of an index -/
def ixOf (n : Nat) (i : Int) : Option Nat := if 0 ≤ i then (if i.toNat < n then some i.toNat else none) else (if (-i).toNat ≤ n then some (n - (-i).toNat) else none)
def atL (l : List D) (i : Int) : M D := match ixOf l.length i with
  | some k => match l[k]? with
    | some d => pure d
    | none => M.stuck
  | none => M.stuck
def idxM (a b : D) : M D := match a, b with
  | .tup l, .int i => atL l i
  | .lst l, .int i => atL l i
  | .scr l, .int i => atL (l.map .int) i
  | .ref n, b => do
    match ← getC n with
    | .lst l => match b with
      | .int i => atL l i
      | _ => M.stuck
    | .dct _ kvs => match toKeys b with
      | some k => match getK kvs k with
        | some d => pure d
        | none => M.stuck
      | none => M.stuck
    | _ => M.stuck
  | _, _ => M.stuck
/-- a part of a list: from lo up to hi -/
def clampI (n : Nat) (i : Int) : Nat := if 0 ≤ i then min i.toNat n else n - (-i).toNat
def loI (n : Nat) : Option Int → Nat
  | none => 0
  | some i => clampI n i
def hiI (n : Nat) : Option Int → Nat
  | none => n
  | some i => clampI n i
def cut {α : Type} (l : List α) (lo hi : Option Int) : List α := (l.take (hiI l.length hi)).drop (loI l.length lo)
def partM : D → M (Option Int)
  | .int i => pure (some i)
  | _ => M.stuck
def sliceM (mk : Bool) (a : D) (lo hi : Option Int) : M D := match a with
  | .tup l => pure (.tup (cut l lo hi))
  | .lst l => newL mk (cut l lo hi)
  | .ref n => do
    match ← getC n with
    | .lst l => newL mk (cut l lo hi)
    | _ => M.stuck
  | _ => M.stuck
def storeL (n : Nat) (l : List D) (v : D) : D → M Unit
  | .int j => match ixOf l.length j with
    | some k => setC n (.lst (l.set k v))
    | none => M.stuck
  | _ => M.stuck
def storeM (o i v : D) : M Unit := match o with
  | .ref n => do
    match ← getC n with
    | .lst l => storeL n l v i
    | .dct false kvs => match toKeys i with
      | some k => if kvs.length < 1000 then setC n (.dct false (putK kvs k v)) else M.stuck
      | none => M.stuck
    | _ => M.stuck
  | _ => M.stuck
def ofOpt : Option D → M D
  | some d => pure d
  | none => M.stuck
def fldM (fl : List (Str × Str)) (o : D) (f : Str) : M D := match o with
  | .ref n => do
    match ← getC n with
    | .ins c fs => if (c, f) ∈ fl then ofOpt (fs.lookup f) else M.stuck
    | _ => M.stuck
  | _ => M.stuck
def putF (f : Str) (v : D) : List (Str × D) → List (Str × D)
  | [] => [(f, v)]
  | p :: r => if p.1 = f then (f, v) :: r else p :: putF f v r
def setFldM (fl : List (Str × Str)) (o : D) (f : Str) (v : D) : M Unit := match o with
  | .ref n => do
    match ← getC n with
    | .ins c fs => if fs.length < 100 ∧ (c, f) ∈ fl then setC n (.ins c (putF f v fs)) else M.stuck
    | _ => M.stuck
  | _ => M.stuck

/-! ### built-ins -/
def intsD (l : List D) : Option (List Int) := l.mapM fun | .int i => some i | _ => none
def boolsD (l : List D) : Option (List Bool) := l.mapM fun | .bl b => some b | _ => none
def maxF (x : Int) (l : List Int) : Int := l.foldl (fun a y => if a < y then y else a) x
def minF (x : Int) (l : List Int) : Int := l.foldl (fun a y => if y < a then y else a) x
def maxL : List Int → Int
  | [] => 0
  | x :: r => maxF x r
def minL : List Int → Int
  | [] => 0
  | x :: r => minF x r
def insI (x : Int) : List Int → List Int
  | [] => [x]
  | y :: r => if x ≤ y then x :: y :: r else y :: insI x r
def sortI : List Int → List Int
  | [] => []
  | x :: r => insI x (sortI r)
inductive Ty where
  | int | bool | str | tuple | list | dict
  deriving DecidableEq
def tyOf (x : Str) : Option Ty :=
  if x = "int" then some .int else if x = "bool" then some .bool else if x = "str" then some .str else if x = "tuple" then some .tuple
  else if x = "list" then some .list else if x = "dict" then some .dict else none
def isiM (d : D) (t : Ty) : M Bool := match d with
  | .non => pure false
  | .bl _ => pure (t == .int || t == .bool)
  | .int _ => pure (t == .int)
  | .str _ => pure (t == .str)
  | .tup _ => pure (t == .tuple)
  | .lst _ => pure (t == .list)
  | .scr _ => M.stuck
  | .ref n => do
    match ← getC n with
    | .lst _ => pure (t == .list)
    | .dct false _ => pure (t == .dict)
    | _ => M.stuck
def lenM (d : D) : M D := match d with
  | .str x => if x.length ≤ most then pure (.int x.length) else M.stuck
  | .tup l => pure (.int l.length)
  | .lst l => pure (.int l.length)
  | .scr l => pure (.int l.length)
  | .ref n => do
    match ← getC n with
    | .lst l => pure (.int l.length)
    | _ => M.stuck
  | _ => M.stuck
def boolsM (a : D) (f : List Bool → Bool) : M D := if isL a then do
    match boolsD (← items a) with
    | some l => pure (.bl (f l))
    | none => M.stuck
  else M.stuck
def intsM (a : D) (f : List Int → M D) : M D := if isL a then do
    match intsD (← items a) with
    | some l => f l
    | none => M.stuck
  else M.stuck
def b_len : List D → M D
  | [a] => lenM a
  | _ => M.stuck
def b_all : List D → M D
  | [a] => boolsM a fun l => l.all id
  | _ => M.stuck
def b_any : List D → M D
  | [a] => boolsM a fun l => l.any id
  | _ => M.stuck
def b_sum : List D → M D
  | [a] => intsM a fun l => pure (.int l.sum)
  | _ => M.stuck
def b_max : List D → M D
  | [a] => intsM a fun l => if l.isEmpty then M.stuck else pure (.int (maxL l))
  | [.int i, .int j] => pure (.int (if j > i then j else i))
  | _ => M.stuck
def b_min : List D → M D
  | [a] => intsM a fun l => if l.isEmpty then M.stuck else pure (.int (minL l))
  | [.int i, .int j] => pure (.int (if j < i then j else i))
  | _ => M.stuck
def b_sorted (mk : Bool) : List D → M D
  | [a] => intsM a fun l => newL mk ((sortI l).map .int)
  | _ => M.stuck
def b_tuple : List D → M D
  | [a] => do pure (.tup (← items a))
  | _ => M.stuck
def b_list (mk : Bool) : List D → M D
  | [a] => do newL mk (← items a)
  | _ => M.stuck
def b_int : List D → M D
  | [.bl b] => pure (.int (if b then 1 else 0))
  | [.int i] => pure (.int i)
  | _ => M.stuck
/-- a built-in by its name -/
def bltM (mk : Bool) (f : Str) : Option (List D → M D) :=
  if f = "len" then some b_len else if f = "all" then some b_all else if f = "any" then some b_any else if f = "sum" then some b_sum
  else if f = "max" then some b_max else if f = "min" then some b_min else if f = "sorted" then some (b_sorted mk)
  else if f = "tuple" then some b_tuple else if f = "list" then some (b_list mk) else if f = "int" then some b_int else none
/-- max, min of a list or tuple of intsD, default= -/
def b_defM (f : Int → List Int → Int) (a d : D) : M D := do
  match intsD (← items a) with
  | some [] => pure d
  | some (x :: r) => pure (.int (f x r))
  | none => M.stuck
def bltD (f : Str) : Option (D → D → M D) := if f = "max" then some (b_defM maxF) else if f = "min" then some (b_defM minF) else none

/-- x(), x of a class: a new thing, then its __init__ -/
def makeM (o : Ora) (f : Str) (l : List D) : M D := do
  let x ← alloc (.ins f [])
  match ← o (f, some "__init__") (x :: l) with
  | .non => pure x
  | _ => M.stuck
/-- r.append(..) -/
def appM (r : Nat) : List D → M D
  | [y] => do
    match ← getC r with
    | .lst l => if l.length < most then do setC r (.lst (l ++ [y])); pure .non else M.stuck
    | _ => M.stuck
  | _ => M.stuck
/-- x.m(..): a list's, or an own class's -/
def methM (ms : List (Str × Str)) (o : Ora) (m : Str) (x : D) (args : M (List D)) : M D := match x with
  | .ref r => do
    match ← getC r with
    | .lst _ => if m = "append" then do appM r (← args) else M.stuck
    | .ins c fs => if (fs.lookup m).isNone ∧ (c, m) ∈ ms then do o (c, some m) (.ref r :: (← args)) else M.stuck
    | _ => M.stuck
  | _ => M.stuck

/-! ### what a loop walks -/
inductive ItK where
  | fix (l : List D)
  | cur (n : Nat)
def rangeL (lo hi : Int) : List D := (List.range (hi - lo).toNat).map fun (k : Nat) => .int (lo + (k : Int))
def rngOk (i : Int) : Bool := decide (-1000000 ≤ i) && decide (i ≤ 1000000)
def rng1M : D → M ItK
  | .int j => if rngOk j then pure (.fix (rangeL 0 j)) else M.stuck
  | _ => M.stuck
def rng2M : D → D → M ItK
  | .int i, .int j => if rngOk i && rngOk j then pure (.fix (rangeL i j)) else M.stuck
  | _, _ => M.stuck
def itM (d : D) : M ItK := match d with
  | .tup l => pure (.fix l)
  | .lst l => pure (.fix l)
  | .ref n => do
    match ← getC n with
    | .lst _ => pure (.cur n)
    | _ => M.stuck
  | _ => M.stuck
/-- list(range(..)) -/
def lstRg (mk : Bool) : D → M D
  | .int j => if rngOk j then newL mk (rangeL 0 j) else M.stuck
  | _ => M.stuck
def lstRg2 (mk : Bool) : D → D → M D
  | .int i, .int j => if rngOk i && rngOk j then newL mk (rangeL i j) else M.stuck
  | _, _ => M.stuck
def enumL : Nat → List D → List D
  | _, [] => []
  | k, d :: r => .tup [.int k, d] :: enumL (k + 1) r
def enumM : D → M ItK
  | .tup l => pure (.fix (enumL 0 l))
  | .lst l => pure (.fix (enumL 0 l))
  | _ => M.stuck
def zipL : List D → List D → List D
  | a :: r, b :: s => .tup [a, b] :: zipL r s
  | _, _ => []

def zipM : D → D → M ItK
  | .tup l, .tup r => pure (.fix (zipL l r))
  | .lst l, .lst r => pure (.fix (zipL l r))
  | _, _ => M.stuck
def isTupE : Expr → Bool
  | .Tuple .. => true
  | _ => false

/-! ### loops -/
def forFix (body : D → Env → AH → RS) : List D → Env → AH → RS
  | [], ρ, h => .next ρ h
  | d :: r, ρ, h => match body d ρ h with
    | .next ρ' h' => forFix body r ρ' h'
    | .cont ρ' h' => forFix body r ρ' h'
    | .brk ρ' h' => .next ρ' h'
    | x => x
def forCur (body : D → Env → AH → RS) (n : Nat) : Nat → Nat → Env → AH → RS
  | 0, _, _, _ => .stuck
  | f + 1, i, ρ, h => match h[n]? with
    | some (.lst l) => match l[i]? with
      | none => .next ρ h
      | some d => match body d ρ h with
        | .next ρ' h' => forCur body n f (i + 1) ρ' h'
        | .cont ρ' h' => forCur body n f (i + 1) ρ' h'
        | .brk ρ' h' => .next ρ' h'
        | x => x
    | _ => .stuck
def whileM (c : Env → M Bool) (body : Env → AH → RS) : Nat → Env → AH → RS
  | 0, _, _ => .stuck
  | f + 1, ρ, h => match c ρ h with
    | .ok true h' => match body ρ h' with
      | .next ρ' h'' => whileM c body f ρ' h''
      | .cont ρ' h'' => whileM c body f ρ' h''
      | .brk ρ' h'' => .next ρ' h''
      | x => x
    | .ok false h' => .next ρ h'
    | .exc e h' => .exc e ρ h'
    | .stuck => .stuck
/-- a comprehension: for each item none or one -/
def compFix (body : D → M (Option D)) : List D → M (List D)
  | [] => pure []
  | d :: r => do
    let x ← body d
    let l ← compFix body r
    pure (match x with | some y => y :: l | none => l)
def compCur (body : D → M (Option D)) (n : Nat) : Nat → Nat → M (List D)
  | 0, _ => M.stuck
  | f + 1, i => do
    match ← getC n with
    | .lst l => match l[i]? with
      | none => pure []
      | some d => do
        let x ← body d
        let l ← compCur body n f (i + 1)
        pure (match x with | some y => y :: l | none => l)
    | _ => M.stuck
def compIt (body : D → M (Option D)) : ItK → M (List D)
  | .fix l => compFix body l
  | .cur n => compCur body n 100000 0

/-- a turn of a comprehension -/
def turnC (G : D → Env → M Env) (T : Env → M Bool) (E : Env → M D) (ρ : Env) (d : D) : M (Option D) := do
  let ρ' ← G d ρ
  let b ← T ρ'
  if b then do
    let x ← E ρ'
    pure (some x)
  else pure none
/-! ### the compiler -/
inductive GK where
  | dfn | cls | exc | con (d : D) | blt | told | no
structure CC where
  N : List Str
  sc : Scope
  gk : Str → GK
  mu : List Pos
  fl : List (Str × Str)
  ms : List (Str × Str)
  /-- the scope as written -/
  raw : Scope
  /-- lambdas may be made here -/
  lam : Bool

def visB (sc : Scope) (x : Str) : Bool := match sc.names.lookup x with
  | some .local => true
  | some .cell => true
  | some .free => true
  | _ => false
def locB (sc : Scope) (x : Str) : Bool := match sc.names.lookup x with
  | some .local => true
  | some .cell => true
  | _ => false
def gloB (sc : Scope) (x : Str) : Bool := decide (sc.names.lookup x = some .globalImplicit)
def nameOk (x : Str) : Bool := !(x == ("__debug__" : Str)) && !(x == ("__classdict__" : Str)) && !(x == ("__name__" : Str))
def CC.slot (C : CC) (x : Str) : Option Nat := if nameOk x then C.N.findIdx? (fun y => decide (y = x)) else none
def getV (ρ : Env) (i : Nat) : M D := match ρ[i]? with
  | some (some d) => pure d
  | _ => M.stuck
/-- the scope of a comprehension's block -/
def relSc (scope sc : Scope) : Scope :=
  { scope with names := scope.names.map fun (n, k) => if (k == .free && sc.kind == .function && sc.names.lookup n == some .cell) then (n, .cell) else (n, k) }
def wipeE (ρ : Env) : List Nat → Env
  | [] => ρ
  | v :: vs => (wipeE ρ vs).set v none
/-- the own names of a comprehension, with their places -/
def ownOf (N : List Str) (scope : Scope) : List (Str × Nat) := scope.names.filterMap fun (n, k) =>
  if (k == .local || k == .cell) then (N.findIdx? (fun y => decide (y = n))).map (fun i => (n, i)) else none
def asBool (d : D) : M Bool := match d with
  | .bl b => pure b
  | _ => M.stuck
def isGlo (C : CC) (x : Str) : Bool := gloB C.sc x && nameOk x
def isBlt (C : CC) (x : Str) : Bool := isGlo C x && (match C.gk x with | .blt => true | _ => false)
/-- the arguments of range, in list(range(..)) -/
def rgArg (C : CC) (f : Str) : List Expr → Option (Expr × Option Expr)
  | [.Call (.Name r _) [a] [] _] => if decide (f = "list") && (decide (r = "range") && isBlt C r) then some (a, none) else none
  | [.Call (.Name r _) [a, b] [] _] => if decide (f = "list") && (decide (r = "range") && isBlt C r) then some (a, some b) else none
  | _ => none
def tyBlt (C : CC) (t : Str) : Option Ty := if isBlt C t then tyOf t else none
/-- the receiver is no call without arguments -/
def plainBase : Expr → Bool
  | .Call (.Name _ _) [] [] _ => false
  | _ => true
def nameSlot (C : CC) : Expr → Option Nat
  | .Name x _ => if locB C.raw x then C.slot x else none
  | _ => none
/-- the places of a target's names -/
def slotsG (C : CC) : Expr → List Nat
  | .Tuple es _ _ => (es.mapM (nameSlot C)).getD []
  | e => (nameSlot C e).toList
/-- a comprehension's block -/
def blkCC (C : CC) (scope : Scope) : CC := { C with sc := relSc scope C.sc, raw := scope }
def blkB (C : CC) (scope : Scope) (tg : Expr) : Bool :=
  L2.blkC C.N C.sc scope (ownOf C.N scope) && (slotsG (blkCC C scope) tg).all fun i => ((ownOf C.N scope).map (·.2)).contains i
/-- a lambda's body -/
def lamCC (C : CC) (scope : Scope) : CC := { C with sc := scope, raw := scope, lam := false }
/-- the refusals that are told by their names -/
def toldN : List Str := ["BadMail", "BadLetter", "BadNumber", "BadOrder", "BadPart", "BadRough", "BadDates", "Nothing", "Full", "BadText", "BadFound"]
def toldM (x : M D) : M D := fun h => match x h with
  | .ok d h' => .ok d h'
  | .exc c h' => if c ∈ toldN then .ok (.tup [.str "refused", .str c]) h' else .stuck
  | .stuck => .stuck
/-- targets -/
def compG (C : CC) : Expr → Option (D → Env → M Env)
  | .Name x _ => if locB C.raw x then (C.slot x).map fun i => fun d ρ => pure (ρ.set i (some d)) else none
  | .Tuple es _ _ => do
    let is ← es.mapM (nameSlot C)
    some fun d ρ => match d with
      | .tup l => if l.length = is.length then pure ((is.zip l).foldl (fun ρ p => ρ.set p.1 (some p.2)) ρ) else M.stuck
      | _ => M.stuck
  | _ => none

mutual
def compE : Nat → CC → Expr → Option Cl
  | 0, _, _ => none
  | _ + 1, C, .Name x _ =>
    if visB C.sc x then (C.slot x).map fun i => fun _ ρ => getV ρ i
    else if isGlo C x then match C.gk x with
      | .con d => some fun _ _ => pure d
      | _ => none
    else none
  | _ + 1, _, .Constant c _ _ => match c with
    | .none => some fun _ _ => pure .non
    | .bool b => some fun _ _ => pure (.bl b)
    | .int i => some fun _ _ => pure (.int i)
    | .str x => some fun _ _ => pure (.str x)
    | _ => none
  | n + 1, C, .Tuple es _ _ => do
    let F ← compEs n C es
    some fun o ρ => do tupM (← F o ρ)
  | n + 1, C, .List es pos => do
    let F ← compEs n C es
    some fun o ρ => do dispM (C.mu.contains pos) (← F o ρ)
  | n + 1, C, .BinOp a op b pos => do
    let A ← compE n C a
    let B ← compE n C b
    some fun o ρ => do binM op (C.mu.contains pos) (← A o ρ) (← B o ρ)
  | n + 1, C, .UnaryOp op a _ => match op with
    | .Not => do
      let A ← compE n C a
      some fun o ρ => do pure (.bl (!(← asBool (← A o ρ))))
    | .USub => do
      let A ← compE n C a
      some fun o ρ => do negM (← A o ρ)
    | _ => none
  | n + 1, C, .BoolOp op es _ => do
    let F ← compBs n C op es
    some fun o ρ => do pure (.bl (← F o ρ))
  | n + 1, C, .Compare a [op] [b] _ => do
    let A ← compE n C a
    let B ← compE n C b
    some fun o ρ => do pure (.bl (← cmpM op (← A o ρ) (← B o ρ)))
  | n + 1, C, .Compare a [op1, op2] [b, c] _ => do
    let A ← compE n C a
    let B ← compE n C b
    let F ← compE n C c
    some fun o ρ => do
      let x ← A o ρ
      let y ← B o ρ
      let k ← cmpM op1 x y
      if k then pure (.bl (← cmpM op2 y (← F o ρ))) else pure (.bl false)
  | n + 1, C, .IfExp t a b _ => do
    let T ← compT n C t
    let A ← compE n C a
    let B ← compE n C b
    some fun o ρ => do if ← T o ρ then A o ρ else B o ρ
  | n + 1, C, .Subscript a (.Slice lo hi none _) pos => do
    let A ← compE n C a
    let L ← compO n C lo
    let H ← compO n C hi
    some fun o ρ => do sliceM (C.mu.contains pos) (← A o ρ) (← L o ρ) (← H o ρ)
  | n + 1, C, .Subscript a b _ => do
    let A ← compE n C a
    let B ← compE n C b
    some fun o ρ => do idxM (← A o ρ) (← B o ρ)
  | n + 1, C, .Attribute a f _ => if plainBase a then do
      let A ← compE n C a
      some fun o ρ => do fldM C.fl (← A o ρ) f
    else none
  | _ + 1, _, .Dict [] [] _ => some fun _ _ => alloc (.dct false [])
  | n + 1, C, .ListComp elt [⟨tg, iter, ifs, 0⟩] scope pos => if blkB C scope tg then do
      let I ← compI n C tg iter
      let G ← compG (blkCC C scope) tg
      let T ← compIf n (blkCC C scope) ifs
      let E ← compE n (blkCC C scope) elt
      some fun o ρ => do
        let it ← I o ρ
        let l ← M.nox (compIt (turnC G (T o) (E o) (wipeE ρ ((ownOf C.N scope).map (·.2)))) it)
        newL (C.mu.contains pos) l
    else none
  | n + 1, C, .Call (.Name f _) as kws pos =>
    if isGlo C f then match C.gk f, kws with
      | .dfn, [] => do
        let F ← compEs n C as
        some fun o ρ => do o (f, none) (← F o ρ)
      | .cls, [] => do
        let F ← compEs n C as
        some fun o ρ => do makeM o f (← F o ρ)
      | .blt, [] =>
        if f = "isinstance" then match as with
          | [a, .Name t _] => do
            let A ← compE n C a
            let T ← tyBlt C t
            some fun o ρ => do pure (.bl (← isiM (← A o ρ) T))
          | _ => none
        else match rgArg C f as with
          | some (a, none) => do
            let A ← compE n C a
            some fun o ρ => do lstRg (C.mu.contains pos) (← A o ρ)
          | some (a, some b) => do
            let A ← compE n C a
            let B ← compE n C b
            some fun o ρ => do lstRg2 (C.mu.contains pos) (← A o ρ) (← B o ρ)
          | none => do
            let F ← compEs n C as
            let B ← bltM (C.mu.contains pos) f
            some fun o ρ => do B (← F o ρ)
      | .blt, [⟨some k, d, _⟩] => if k = "default" then match as with
          | [a] => do
            let A ← compE n C a
            let B ← compE n C d
            let G ← bltD f
            some fun o ρ => do
              let x ← A o ρ
              let y ← B o ρ
              G x y
          | _ => none
        else none
      | .told, [] => match as with
        | [.Lambda ⟨[], [], none, [], [], none, []⟩ body scope _] => if C.lam && LamX.lamSB C.sc scope then do
            let B ← compE n (lamCC C scope) body
            some fun o ρ => toldM (B o ρ)
          else none
        | _ => none
      | _, _ => none
    else none
  | n + 1, C, .Call (.Attribute a m apos) as [] pos => if plainBase a && (apos.endLine == pos.line) && decide (as.length < 29) then do
      let A ← compE n C a
      let F ← compEs n C as
      some fun o ρ => do methM C.ms o m (← A o ρ) (F o ρ)
    else none
  | _ + 1, _, _ => none
def compT : Nat → CC → Expr → Option ClT
  | 0, _, _ => none
  | n + 1, C, .UnaryOp .Not a _ => do
    let A ← compT n C a
    some fun o ρ => do pure (!(← A o ρ))
  | n + 1, C, .BoolOp op es _ => compTs n C op es
  | n + 1, C, .Compare a [op] [b] _ => do
    let A ← compE n C a
    let B ← compE n C b
    some fun o ρ => do cmpM op (← A o ρ) (← B o ρ)
  | n + 1, C, .Compare a [op1, op2] [b, c] _ => do
    let A ← compE n C a
    let B ← compE n C b
    let F ← compE n C c
    some fun o ρ => do
      let x ← A o ρ
      let y ← B o ρ
      let k ← cmpM op1 x y
      if k then cmpM op2 y (← F o ρ) else pure false
  | n + 1, C, .Call f as k p => do
    let A ← compE n C (.Call f as k p)
    some fun o ρ => do asBool (← A o ρ)
  | n + 1, C, .Name x p => do
    let A ← compE n C (.Name x p)
    some fun o ρ => do asBool (← A o ρ)
  | n + 1, C, .Constant x k p => do
    let A ← compE n C (.Constant x k p)
    some fun o ρ => do asBool (← A o ρ)
  | n + 1, C, .Subscript a b p => do
    let A ← compE n C (.Subscript a b p)
    some fun o ρ => do asBool (← A o ρ)
  | _ + 1, _, _ => none
/-- and, or as tests -/
def compTs : Nat → CC → BoolOp → List Expr → Option ClT
  | 0, _, _, _ => none
  | n + 1, C, _, [a] => compT n C a
  | n + 1, C, op, a :: r => do
    let A ← compT n C a
    let B ← compTs n C op r
    match op with
    | .And => some fun o ρ => do if ← A o ρ then B o ρ else pure false
    | .Or => some fun o ρ => do if ← A o ρ then pure true else B o ρ
  | _ + 1, _, _, [] => none
/-- and, or as values, all of them boolsD -/
def compBs : Nat → CC → BoolOp → List Expr → Option ClT
  | 0, _, _, _ => none
  | n + 1, C, _, [a] => do
    let A ← compE n C a
    some fun o ρ => do asBool (← A o ρ)
  | n + 1, C, op, a :: r => do
    let A ← compE n C a
    let B ← compBs n C op r
    match op with
    | .And => some fun o ρ => do if ← asBool (← A o ρ) then B o ρ else pure false
    | .Or => some fun o ρ => do if ← asBool (← A o ρ) then pure true else B o ρ
  | _ + 1, _, _, [] => none
def compEs : Nat → CC → List Expr → Option ClL
  | 0, _, _ => none
  | _ + 1, _, [] => some fun _ _ => pure []
  | n + 1, C, e :: r => do
    let A ← compE n C e
    let B ← compEs n C r
    some fun o ρ => do
      let x ← A o ρ
      let l ← B o ρ
      pure (x :: l)
/-- a clause's tests -/
def compIf : Nat → CC → List Expr → Option ClT
  | 0, _, _ => none
  | _ + 1, _, [] => some fun _ _ => pure true
  | n + 1, C, [c] => compT n C c
  | _ + 1, _, _ => none
/-- a bound of a slice -/
def compO : Nat → CC → Option Expr → Option (Ora → Env → M (Option Int))
  | 0, _, _ => none
  | _ + 1, _, none => some fun _ _ => pure none
  | n + 1, C, some e => do
    let A ← compE n C e
    some fun o ρ => do partM (← A o ρ)
/-- what a for walks, with its target -/
def compI : Nat → CC → Expr → Expr → Option (Ora → Env → M ItK)
  | 0, _, _, _ => none
  | n + 1, C, tg, .Call (.Name f p) [a] [] pos =>
    if isBlt C f && decide (f = "range") then do
        let A ← compE n C a
        some fun o ρ => do rng1M (← A o ρ)
    else if isBlt C f && decide (f = "enumerate") && isTupE tg then do
        let A ← compE n C a
        some fun o ρ => do enumM (← A o ρ)
    else do
        let A ← compE n C (.Call (.Name f p) [a] [] pos)
        some fun o ρ => do itM (← A o ρ)
  | n + 1, C, tg, .Call (.Name f p) [a, b] [] pos =>
    if isBlt C f && decide (f = "range") then do
        let A ← compE n C a
        let B ← compE n C b
        some fun o ρ => do rng2M (← A o ρ) (← B o ρ)
    else if isBlt C f && decide (f = "zip") && isTupE tg then do
        let A ← compE n C a
        let B ← compE n C b
        some fun o ρ => do zipM (← A o ρ) (← B o ρ)
    else do
        let A ← compE n C (.Call (.Name f p) [a, b] [] pos)
        some fun o ρ => do itM (← A o ρ)
  | n + 1, C, _, e => do
    let A ← compE n C e
    some fun o ρ => do itM (← A o ρ)
end

/-! ### statements -/
def starB : Expr → Bool
  | .Starred .. => true
  | _ => false
def locName (sc : Scope) (line : Nat) : Expr → Option Str
  | .Name id pos => if sc.names.lookup id == some .local && pos.line == line then some id else none
  | _ => none
/-- how a, b = x, y is stored: by the names from the right, or as any tuple -/
def swP (sc : Scope) (ts vs : List Expr) : Option (Option (List Str)) :=
  if !(ts.length == 2 || ts.length == 3) || vs.length != ts.length then some none
  else if vs.any starB then some none
  else
    let names := ts.filterMap (locName sc ((ts.head?.map (·.pos.line)).getD 0))
    if names.length != ts.length || names.eraseDups.length != names.length then some none
    else if vs.all (foldedForSure 8) then some none
    else if vs.all (constantsAlone 8) then none
    else some (some names)
def swOk (sc : Scope) (ts : List Expr) : Expr → Bool
  | .Tuple vs _ _ => (swP sc ts vs).isSome
  | _ => true
def isComp : Expr → Bool
  | .ListComp .. => true
  | .SetComp .. => true
  | .DictComp .. => true
  | _ => false
def liftE {α : Type} (x : M α) (ρ : Env) (k : α → AH → RS) : AH → RS := fun h => match x h with
  | .ok a h' => k a h'
  | .exc c h' => .exc c ρ h'
  | .stuck => .stuck
def loopOf (body : D → Env → AH → RS) (it : ItK) (ρ : Env) (h : AH) : RS := match it with
  | .fix l => forFix body l ρ h
  | .cur n => forCur body n 100000 0 ρ h

mutual
def compS : Nat → CC → Stmt → Option ClS
  | 0, _, _ => none
  | _ + 1, _, .Pass _ => some fun _ ρ h => .next ρ h
  | n + 1, C, .Return none _ => some fun _ _ h => .ret .non h
  | n + 1, C, .Return (some e) _ => do
    let A ← compE n C e
    some fun o ρ => liftE (A o ρ) ρ fun d h => .ret d h
  | n + 1, C, .Expr e _ => if isComp e then none else do
    let A ← compE n C e
    some fun o ρ => liftE (A o ρ) ρ fun _ h => .next ρ h
  | n + 1, C, .Assign [.Name x p] e _ => do
    let A ← compE n C e
    let G ← compG C (.Name x p)
    some fun o ρ => liftE (do G (← A o ρ) ρ) ρ fun ρ' h => .next ρ' h
  | n + 1, C, .Assign [.Tuple ts k p] e _ => if swOk C.sc ts e then do
      let A ← compE n C e
      let G ← compG C (.Tuple ts k p)
      some fun o ρ => liftE (do G (← A o ρ) ρ) ρ fun ρ' h => .next ρ' h
    else none
  | n + 1, C, .Assign [.Subscript a b _] e _ => do
    let E ← compE n C e
    let A ← compE n C a
    let B ← compE n C b
    some fun o ρ => liftE (do
      let v ← E o ρ
      let x ← A o ρ
      let y ← B o ρ
      storeM x y v) ρ fun _ h => .next ρ h
  | n + 1, C, .Assign [.Attribute a f _] e _ => do
    let E ← compE n C e
    let A ← compE n C a
    some fun o ρ => liftE (do
      let v ← E o ρ
      let x ← A o ρ
      setFldM C.fl x f v) ρ fun _ h => .next ρ h
  | n + 1, C, .If t a b _ => do
    let T ← compT n C t
    let A ← compSs n C a
    let B ← compSs n C b
    some fun o ρ => liftE (T o ρ) ρ fun c h => if c then A o ρ h else B o ρ h
  | n + 1, C, .For tg iter body [] _ => do
    let I ← compI n C tg iter
    let G ← compG C tg
    let B ← compSs n C body
    some fun o ρ => liftE (I o ρ) ρ fun it h => loopOf (fun d ρ => liftE (G d ρ) ρ fun ρ' h => B o ρ' h) it ρ h
  | n + 1, C, .While t body [] _ => do
    let T ← compT n C t
    let B ← compSs n C body
    some fun o ρ => whileM (T o) (B o) 1000 ρ
  | n + 1, C, .Raise (some (.Call (.Name x _) [.Constant (.str _) _ _] [] _)) none _ =>
    if isGlo C x then match C.gk x with
      | .exc => some fun _ ρ h => .exc x ρ h
      | _ => none
    else none
  | _ + 1, _, _ => none
def compSs : Nat → CC → List Stmt → Option ClS
  | 0, _, _ => none
  | _ + 1, _, [] => some fun _ ρ h => .next ρ h
  | n + 1, C, s :: r => do
    let A ← compS n C s
    let B ← compSs n C r
    some fun o ρ h => match A o ρ h with
      | .next ρ' h' => B o ρ' h'
      | x => x
end

/-! ### a program -/
structure Def where
  key : Str × Option Str
  ps : List Str
  N : List Str
  sc : Scope
  body : List Stmt
structure Prog where
  gk : Str → GK
  mu : List Pos
  fl : List (Str × Str)
  ms : List (Str × Str)
  defs : List Def
  /-- the defs that make lambdas -/
  lams : List (Str × Option Str)
def Prog.cc (P : Prog) (d : Def) : CC := ⟨d.N, d.sc, P.gk, P.mu, P.fl, P.ms, d.sc, P.lams.contains d.key⟩
def Def.code (P : Prog) (d : Def) : Option ClS := compSs 60 (P.cc d) d.body
def bodyM (S : ClS) (o : Ora) (ρ : Env) : M D := fun h => match S o ρ h with
  | .next _ h' => .ok .non h'
  | .ret d h' => .ok d h'
  | .exc c _ h' => .exc c h'
  | _ => .stuck
def startE (N : List Str) (as : List D) : Env := as.map some ++ List.replicate (N.length - as.length) none
def Prog.find (P : Prog) (k : Str × Option Str) : Option Def := P.defs.find? fun d => decide (d.key = k)
def run (P : Prog) : Nat → Ora
  | 0, _, _ => M.stuck
  | n + 1, k, as => match P.find k with
    | some d => if as.length = d.ps.length then match d.code P with
        | some S => bodyM S (run P n) (startE d.N as)
        | none => M.stuck
      else M.stuck
    | none => M.stuck
end Cr
set_option Elab.async false
set_option linter.all false
set_option maxRecDepth 100000
set_option maxHeartbeats 1000000
/-! What the abstract values and heaps say of HandS's values and heaps. -/
namespace Cr
open PySem PySem.Spec PyProof.Rows L2

/-- the abstract heap's places; and lists still being made, which no value names -/
structure Al where
  l : List Addr
  hid : List Addr
  K : PySem.W.Frag
instance : Membership Addr Al := ⟨fun α a => a ∈ α.l ∨ a ∈ α.hid⟩
def Al.snoc (α : Al) (p : Addr) : Al := ⟨α.l ++ [p], α.hid, α.K⟩
def Al.hide (α : Al) (p : Addr) : Al := ⟨α.l, p :: α.hid, α.K⟩
theorem Al.mem {α : Al} {n : Nat} {a : Addr} (h : α.l[n]? = some a) : a ∈ α := .inl (List.mem_of_getElem? h)
/-- a list of the top's own objects -/
def KL (K : PySem.W.Frag) (a : Addr) (xs : List V) : Prop := ∃ (o : Obj) (its : Array Value) (n : Nat), K.lookup a = some o ∧ o.cls = .type "list" ∧ o.dict = none ∧ o.data = .seq its n ∧ its.size ≤ sizeLine ∧ Vals xs its.toList
/-- the script, wherever it lies -/
def SqS (α : Al) (H : Hp) (a : Addr) (xs : List V) : Prop := (Rd H a (.lst xs) ∧ a ∉ α) ∨ KL α.K a xs
theorem SqS.sq {α : Al} {H : Hp} {a : Addr} {xs : List V} : SqS α H a xs → SqL α.K H a xs
  | .inl h => .inl h.1
  | .inr h => .inr h
mutual
inductive RD (α : Al) (H : Hp) : D → V → Prop
  | non : RD α H .non .non
  | bl (b : Bool) : RD α H (.bl b) (.bl b)
  | int (i : Int) : RD α H (.int i) (.int i)
  | str (x : Str) : RD α H (.str x) (.str x)
  | tup {a : Addr} {l : List D} {vs : List V} : H a = some (.tup vs) → a ∉ α → l.length ≤ sizeLine → RDs α H l vs → RD α H (.tup l) (.ref a)
  | lst {a : Addr} {l : List D} {vs : List V} : H a = some (.lst vs) → a ∉ α → l.length ≤ sizeLine → RDs α H l vs → RD α H (.lst l) (.ref a)
  | scr {a : Addr} {l : List Int} : SqS α H a (l.map V.int) → l.length ≤ sizeLine → RD α H (.scr l) (.ref a)
  | ref {n : Nat} {a : Addr} : α.l[n]? = some a → RD α H (.ref n) (.ref a)
inductive RDs (α : Al) (H : Hp) : List D → List V → Prop
  | nil : RDs α H [] []
  | cons {d : D} {v : V} {l : List D} {vs : List V} : RD α H d v → RDs α H l vs → RDs α H (d :: l) (v :: vs)
end

/-- the heap has grown; what is not in the abstract heap is as it was (but for tables of code objects) -/
structure Ext0 (α α' : Al) (H H' : Hp) : Prop where
  pre : ∀ (n : Nat) a, α.l[n]? = some a → α'.l[n]? = some a
  keep : ∀ a o, H a = some o → a ∉ α → (∀ ps, o ≠ .tbl ps) → H' a = some o
  new : ∀ a, a ∈ α' → a ∈ α ∨ ∀ o, H a = some o → ∃ ps, o = .tbl ps
  kk : α'.K = α.K
/-- .. and the lists still being made stand -/
structure Ext (α α' : Al) (H H' : Hp) : Prop extends Ext0 α α' H H' where
  hid : α'.hid = α.hid
  hold : ∀ a, a ∈ α.hid → H' a = H a
section
variable {α α' α'' : Al} {H H' H'' : Hp}
theorem Ext0.out (e : Ext0 α α' H H') {a : Addr} {o : HO} (h : H a = some o) (ha : a ∉ α) (ht : ∀ ps, o ≠ .tbl ps) : a ∉ α' := fun z => by
  rcases e.new a z with q | q
  · exact ha q
  · obtain ⟨ps, z⟩ := q o h
    exact ht ps z
theorem Ext0.trans (e : Ext0 α α' H H') (f : Ext0 α' α'' H' H'') : Ext0 α α'' H H'' where
  pre := fun n a h => f.pre n a (e.pre n a h)
  keep := fun a o h ha ht => f.keep a o (e.keep a o h ha ht) (e.out h ha ht) ht
  new := fun a h => by
    rcases f.new a h with q | q
    · exact e.new a q
    · by_cases ha : a ∈ α
      · exact .inl ha
      · refine .inr fun o z => ?_
        by_cases ht : ∃ ps, o = .tbl ps
        · exact ht
        · exact q o (e.keep a o z ha fun ps z => ht ⟨ps, z⟩)
  kk := f.kk.trans e.kk
theorem Ext0.at (e : Ext0 α α' H H') {a : Addr} {o : HO} (h : H a = some o) (ha : a ∉ α) (ht : ∀ ps, o ≠ .tbl ps) : H' a = some o := e.keep a o h ha ht
theorem Ext0.rd (e : Ext0 α α' H H') {a : Addr} {xs : List V} (h : Rd H a (.lst xs)) (ha : a ∉ α) : Rd H' a (.lst xs) ∧ a ∉ α' := by
  rcases h with h | ⟨o, h⟩
  · exact ⟨.inl (e.at h ha (fun _ z => by cases z)), e.out h ha (fun _ z => by cases z)⟩
  · exact ⟨.inr ⟨o, e.at h ha (fun _ z => by cases z)⟩, e.out h ha (fun _ z => by cases z)⟩
theorem Ext0.scr (e : Ext0 α α' H H') {a : Addr} {xs : List V} : SqS α H a xs → SqS α' H' a xs
  | .inl h => .inl (e.rd h.1 h.2)
  | .inr h => .inr (by rw [e.kk]; exact h)
theorem Ext.refl (α : Al) (H : Hp) : Ext α α H H := ⟨⟨fun _ _ h => h, fun _ _ h _ _ => h, fun _ h => .inl h, rfl⟩, rfl, fun _ _ => rfl⟩
theorem Ext.out (e : Ext α α' H H') {a : Addr} {o : HO} (h : H a = some o) (ha : a ∉ α) (ht : ∀ ps, o ≠ .tbl ps) : a ∉ α' := e.toExt0.out h ha ht
theorem Ext.at (e : Ext α α' H H') {a : Addr} {o : HO} (h : H a = some o) (ha : a ∉ α) (ht : ∀ ps, o ≠ .tbl ps) : H' a = some o := e.toExt0.at h ha ht
theorem Ext.rd (e : Ext α α' H H') {a : Addr} {xs : List V} (h : Rd H a (.lst xs)) (ha : a ∉ α) : Rd H' a (.lst xs) ∧ a ∉ α' := e.toExt0.rd h ha
theorem Ext.trans (e : Ext α α' H H') (f : Ext α' α'' H' H'') : Ext α α'' H H'' := ⟨e.toExt0.trans f.toExt0, f.hid.trans e.hid, fun a ha => (f.hold a (by rw [e.hid]; exact ha)).trans (e.hold a ha)⟩
/-- an object of the abstract heap is written -/
theorem Ext0.write {p : Addr} {o : HO} (hp : p ∈ α) : Ext0 α α H (upd H p o) :=
  ⟨fun _ _ h => h, fun a u h ha _ => by
    have ne : a ≠ p := fun z => ha (by rw [z]; exact hp)
    rw [upd_ne ne]; exact h, fun _ h => .inl h, rfl⟩
theorem Ext.write {p : Addr} {o : HO} (hp : p ∈ α) (hh : p ∉ α.hid) : Ext α α H (upd H p o) :=
  ⟨.write hp, rfl, fun a ha => upd_ne fun z => hh (z ▸ ha)⟩
mutual
theorem RD.mono0 (e : Ext0 α α' H H') : ∀ {d : D} {v : V}, RD α H d v → RD α' H' d v
  | _, _, .non => .non
  | _, _, .bl b => .bl b
  | _, _, .int i => .int i
  | _, _, .str x => .str x
  | _, _, .tup h ha hl r => .tup (e.at h ha (fun _ z => by cases z)) (e.out h ha (fun _ z => by cases z)) hl (RDs.mono0 e r)
  | _, _, .lst h ha hl r => .lst (e.at h ha (fun _ z => by cases z)) (e.out h ha (fun _ z => by cases z)) hl (RDs.mono0 e r)
  | _, _, .scr h hl => .scr (e.scr h) hl
  | _, _, .ref h => .ref (e.pre _ _ h)
theorem RDs.mono0 (e : Ext0 α α' H H') : ∀ {l : List D} {vs : List V}, RDs α H l vs → RDs α' H' l vs
  | _, _, .nil => .nil
  | _, _, .cons h r => .cons (RD.mono0 e h) (RDs.mono0 e r)
end
theorem RD.mono (e : Ext α α' H H') {d : D} {v : V} (r : RD α H d v) : RD α' H' d v := r.mono0 e.toExt0
theorem RDs.mono (e : Ext α α' H H') {l : List D} {vs : List V} (r : RDs α H l vs) : RDs α' H' l vs := r.mono0 e.toExt0
theorem RDs.length : ∀ {l : List D} {vs : List V}, RDs α H l vs → l.length = vs.length
  | _, _, .nil => rfl
  | _, _, .cons _ r => by simp [RDs.length r]
theorem RDs.get : ∀ {l : List D} {vs : List V} {i : Nat} {d : D}, RDs α H l vs → l[i]? = some d → ∃ v, vs[i]? = some v ∧ RD α H d v
  | _, _, _, _, .nil, h => by simp at h
  | _, _, 0, _, .cons r _, h => by simp at h; subst h; exact ⟨_, rfl, r⟩
  | _, _, i + 1, d, .cons _ t, h => by
    obtain ⟨v, h1, h2⟩ := RDs.get (i := i) (d := d) t (by simpa using h)
    exact ⟨v, by simpa using h1, h2⟩
theorem RDs.getV : ∀ {l : List D} {vs : List V} {i : Nat} {v : V}, RDs α H l vs → vs[i]? = some v → ∃ d, l[i]? = some d ∧ RD α H d v
  | _, _, _, _, .nil, h => by simp at h
  | _, _, 0, _, .cons r _, h => by simp at h; subst h; exact ⟨_, rfl, r⟩
  | _, _, i + 1, d, .cons _ t, h => by
    obtain ⟨v, h1, h2⟩ := RDs.getV (i := i) (v := d) t (by simpa using h)
    exact ⟨v, by simpa using h1, h2⟩
theorem RDs.append : ∀ {l k : List D} {vs ws : List V}, RDs α H l vs → RDs α H k ws → RDs α H (l ++ k) (vs ++ ws)
  | _, _, _, _, .nil, s => s
  | _, _, _, _, .cons r t, s => .cons r (RDs.append t s)
theorem RDs.take : ∀ {l : List D} {vs : List V} (n : Nat), RDs α H l vs → RDs α H (l.take n) (vs.take n)
  | _, _, 0, _ => .nil
  | _, _, _ + 1, .nil => .nil
  | _, _, n + 1, .cons r t => .cons r (RDs.take n t)
theorem RDs.drop : ∀ {l : List D} {vs : List V} (n : Nat), RDs α H l vs → RDs α H (l.drop n) (vs.drop n)
  | _, _, 0, r => r
  | _, _, _ + 1, .nil => .nil
  | _, _, n + 1, .cons _ t => RDs.drop n t
theorem RDs.set {d : D} {v : V} (r : RD α H d v) : ∀ {l : List D} {vs : List V} (n : Nat), RDs α H l vs → RDs α H (l.set n d) (vs.set n v)
  | _, _, _, .nil => .nil
  | _, _, 0, .cons _ t => .cons r t
  | _, _, n + 1, .cons q t => .cons q (RDs.set r n t)
theorem RDs.rep {l : List D} {vs : List V} (r : RDs α H l vs) : ∀ n : Nat, RDs α H (List.replicate n l).flatten (List.replicate n vs).flatten
  | 0 => .nil
  | n + 1 => by
    rw [List.replicate_succ, List.replicate_succ, List.flatten_cons, List.flatten_cons]
    exact r.append (RDs.rep r n)
end

/-! ### cells -/
inductive KVR (α : Al) (H : Hp) : List (List Key × D) → List (List L2.Key × V) → Prop
  | nil : KVR α H [] []
  | cons {k : List Key} {d : D} {v : V} {l : List (List Key × D)} {r : List (List L2.Key × V)} : RD α H d v → KVR α H l r → KVR α H ((k, d) :: l) ((k, v) :: r)
inductive FR (α : Al) (H : Hp) : List (Str × D) → List (Str × V) → Prop
  | nil : FR α H [] []
  | cons {k : Str} {d : D} {v : V} {l : List (Str × D)} {r : List (Str × V)} : RD α H d v → FR α H l r → FR α H ((k, d) :: l) ((k, v) :: r)
section
variable {α α' : Al} {H H' : Hp}
theorem KVR.mono0 (e : Ext0 α α' H H') : ∀ {l : List (List Key × D)} {r : List (List L2.Key × V)}, KVR α H l r → KVR α' H' l r
  | _, _, .nil => .nil
  | _, _, .cons h r => .cons (h.mono0 e) (KVR.mono0 e r)
theorem FR.mono0 (e : Ext0 α α' H H') : ∀ {l : List (Str × D)} {r : List (Str × V)}, FR α H l r → FR α' H' l r
  | _, _, .nil => .nil
  | _, _, .cons h r => .cons (h.mono0 e) (FR.mono0 e r)
theorem KVR.mono (e : Ext α α' H H') {l : List (List Key × D)} {r : List (List L2.Key × V)} (h : KVR α H l r) : KVR α' H' l r := h.mono0 e.toExt0
theorem FR.mono (e : Ext α α' H H') {l : List (Str × D)} {r : List (Str × V)} (h : FR α H l r) : FR α' H' l r := h.mono0 e.toExt0
end
def CellR (K : PySem.W.Frag) (α : Al) (H : Hp) (a : Addr) : Cell → Prop
  | .lst l => ∃ vs, H a = some (.lst vs) ∧ RDs α H l vs ∧ l.length ≤ sizeLine
  | .dct false kvs => ∃ r, H a = some (.dT r) ∧ KVR α H kvs r ∧ kvs.length ≤ 1000
  | .dct true kvs => ∃ o r, H a = some (.frz o (.dT r)) ∧ KVR α H kvs r ∧ kvs.length ≤ 1000
  | .ins c fs => ∃ dx r, H a = some (.ins (He.ga K c) dx r) ∧ FR α H fs r ∧ fs.length ≤ 100
theorem CellR.some {K : PySem.W.Frag} {α : Al} {H : Hp} {a : Addr} : ∀ {c : Cell}, CellR K α H a c → ∃ o, H a = some o
  | .lst _, ⟨_, h, _⟩ => ⟨_, h⟩
  | .dct false _, ⟨_, h, _⟩ => ⟨_, h⟩
  | .dct true _, ⟨_, _, h, _⟩ => ⟨_, h⟩
  | .ins _ _, ⟨_, _, h, _⟩ => ⟨_, h⟩
/-- the object at a stands as it did, the rest has grown -/
theorem CellR.mono {K : PySem.W.Frag} {α α' : Al} {H H' : Hp} (e : Ext0 α α' H H') {a : Addr} (ha : H' a = H a) : ∀ {c : Cell}, CellR K α H a c → CellR K α' H' a c
  | .lst _, ⟨vs, h, r, z⟩ => ⟨vs, by rw [ha]; exact h, r.mono0 e, z⟩
  | .dct false _, ⟨vs, h, r, z⟩ => ⟨vs, by rw [ha]; exact h, r.mono0 e, z⟩
  | .dct true _, ⟨o, vs, h, r, z⟩ => ⟨o, vs, by rw [ha]; exact h, r.mono0 e, z⟩
  | .ins _ _, ⟨dx, vs, h, r, z⟩ => ⟨dx, vs, by rw [ha]; exact h, r.mono0 e, z⟩

/-- the abstract heap h, its n-th thing at α.l[n], stands in H -/
structure Sim (K : PySem.W.Frag) (T : Hp → Prop) (α : Al) (h : AH) (H : Hp) : Prop where
  len : α.l.length = h.length
  nd : α.l.Nodup
  cell : ∀ (n : Nat) a c, α.l[n]? = some a → h[n]? = some c → CellR K α H a c
  tab : T H
  hd : ∀ a, a ∈ α.hid → a ∉ α.l ∧ ∃ vs, H a = some (.lst vs)
  kf : α.K = K
/-- the tables: what the heap bears besides, which new objects and writes to other kinds leave alone -/
structure TabOk (T : Hp → Prop) : Prop where
  upd : ∀ H a o, T H → (∀ ps, H a ≠ some (.tbl ps)) → (∀ φ, H a ≠ some (.ext φ)) → T (upd H a o)
section
variable {K : PySem.W.Frag} {T : Hp → Prop} {α : Al} {h : AH} {H : Hp}
theorem Sim.has (S : Sim K T α h H) {n : Nat} {a : Addr} (e : α.l[n]? = some a) : ∃ c, h[n]? = some c ∧ CellR K α H a c := by
  have hn : n < h.length := by rw [← S.len]; exact (List.getElem?_eq_some_iff.mp e).1
  exact ⟨h[n], by simp [hn], S.cell n a _ e (by simp [hn])⟩
theorem Sim.mem (S : Sim K T α h H) {a : Addr} (ha : a ∈ α) : ∃ o, H a = some o := by
  rcases ha with ha | ha
  · obtain ⟨n, hn, e⟩ := List.mem_iff_getElem.mp ha
    obtain ⟨c, _, r⟩ := S.has (n := n) (a := a) (by rw [List.getElem?_eq_getElem hn, e])
    exact r.some
  · obtain ⟨_, u, e⟩ := S.hd a ha
    exact ⟨_, e⟩
theorem Sim.free (S : Sim K T α h H) {p : Addr} (hp : H p = none) : p ∉ α := fun z => by
  obtain ⟨o, e⟩ := S.mem z
  rw [hp] at e; cases e
theorem Sim.unhid (S : Sim K T α h H) {n : Nat} {a : Addr} (e : α.l[n]? = some a) : a ∉ α.hid := fun z => (S.hd a z).1 (List.mem_of_getElem? e)
/-- a new object -/
theorem Ext.fresh0 {p : Addr} {o : HO} (hp : H p = none) : Ext0 α α H (L2.upd H p o) :=
  ⟨fun _ _ h => h, fun a u h _ _ => by rw [upd_ne (ne_of_none h hp)]; exact h, fun _ h => .inl h, rfl⟩
theorem Sim.fresh (S : Sim K T α h H) {p : Addr} {o : HO} (hp : H p = none) : Ext α α H (L2.upd H p o) :=
  ⟨Ext.fresh0 hp, rfl, fun a ha => upd_ne fun z => S.free hp (.inr (z ▸ ha))⟩
/-- a new object of the abstract heap -/
theorem Ext.snoc0 {p : Addr} {o : HO} (hp : H p = none) : Ext0 α (α.snoc p) H (L2.upd H p o) where
  pre := fun n a h => by
    show (α.l ++ [p])[n]? = _
    rw [List.getElem?_append_left (List.getElem?_eq_some_iff.mp h).1]; exact h
  keep := fun a u h _ _ => by rw [upd_ne (ne_of_none h hp)]; exact h
  new := fun a h => by
    rcases h with h | h
    · rcases List.mem_append.mp h with q | q
      · exact .inl (.inl q)
      · have e : a = p := by simpa using q
        exact .inr fun o z => by rw [e, hp] at z; cases z
    · exact .inl (.inr h)
  kk := rfl
theorem Sim.ext (S : Sim K T α h H) {p : Addr} {o : HO} (hp : H p = none) : Ext α (α.snoc p) H (L2.upd H p o) :=
  ⟨Ext.snoc0 hp, rfl, fun a ha => upd_ne fun z => S.free hp (.inr (z ▸ ha))⟩
theorem Sim.wrote (S : Sim K T α h H) {n : Nat} {a : Addr} {o : HO} (e : α.l[n]? = some a) : Ext α α H (L2.upd H a o) := .write (Al.mem e) (S.unhid e)
theorem Sim.upd {TO : TabOk T} (S : Sim K T α h H) {p : Addr} {o : HO} (hp : H p = none) : Sim K T α h (upd H p o) where
  len := S.len
  nd := S.nd
  cell := fun n a c e1 e2 => (S.cell n a c e1 e2).mono (Ext.fresh0 hp) (upd_ne fun z => S.free hp (z ▸ Al.mem e1))
  tab := TO.upd H p o S.tab (fun ps z => by rw [hp] at z; cases z) (fun ps z => by rw [hp] at z; cases z)
  hd := fun a ha => ⟨(S.hd a ha).1, by
    obtain ⟨u, e⟩ := (S.hd a ha).2
    exact ⟨u, by rw [upd_ne (ne_of_none e hp)]; exact e⟩⟩
  kf := S.kf
theorem Sim.snoc {TO : TabOk T} (S : Sim K T α h H) {p : Addr} {o : HO} {c : Cell} (hp : H p = none) (hc : CellR K (α.snoc p) (L2.upd H p o) p c) : Sim K T (α.snoc p) (h ++ [c]) (L2.upd H p o) where
  len := by simp [S.len, Al.snoc]
  nd := by
    show (α.l ++ [p]).Nodup
    rw [List.nodup_append]
    exact ⟨S.nd, by simp, fun a ha b hb z => by
      have e : b = p := by simpa using hb
      exact S.free hp (.inl (e ▸ z ▸ ha))⟩
  cell := fun n a c' e1 e2 => by
    have e1 : (α.l ++ [p])[n]? = some a := e1
    by_cases hn : n < α.l.length
    · rw [List.getElem?_append_left hn] at e1
      rw [List.getElem?_append_left (by rw [← S.len]; exact hn)] at e2
      exact (S.cell n a c' e1 e2).mono (Ext.snoc0 hp) (upd_ne fun z => S.free hp (z ▸ Al.mem e1))
    · rw [List.getElem?_append_right (by omega)] at e1
      rw [List.getElem?_append_right (by rw [← S.len]; omega)] at e2
      have hn' : n - α.l.length = 0 := by
        cases q : n - α.l.length with
        | zero => rfl
        | succ m => rw [q] at e1; simp at e1
      rw [hn'] at e1
      have hn2 : n - h.length = 0 := by rw [← S.len]; exact hn'
      rw [hn2] at e2
      simp at e1 e2
      subst e1 e2
      exact hc
  tab := TO.upd H p o S.tab (fun ps z => by rw [hp] at z; cases z) (fun ps z => by rw [hp] at z; cases z)
  hd := fun a ha => by
    obtain ⟨q, u, e⟩ := S.hd a ha
    refine ⟨fun z => ?_, u, by rw [upd_ne (ne_of_none e hp)]; exact e⟩
    rcases List.mem_append.mp z with z | z
    · exact q z
    · have z : a = p := by simpa using z
      rw [z, hp] at e
      cases e
  kf := S.kf
theorem Sim.write {TO : TabOk T} (S : Sim K T α h H) {n : Nat} {a : Addr} {o : HO} {c : Cell} (hn : α.l[n]? = some a) (hc : CellR K α (L2.upd H a o) a c) : Sim K T α (h.set n c) (L2.upd H a o) where
  len := by simp [S.len]
  nd := S.nd
  cell := fun m b c' e1 e2 => by
    by_cases hm : n = m
    · subst hm
      rw [hn] at e1
      cases e1
      have hl : n < h.length := by rw [← S.len]; exact (List.getElem?_eq_some_iff.mp hn).1
      rw [List.getElem?_set_self hl] at e2
      cases e2
      exact hc
    · rw [List.getElem?_set_ne hm] at e2
      refine (S.cell m b c' e1 e2).mono (.write (Al.mem hn)) (upd_ne fun z => hm ?_)
      subst z
      obtain ⟨h1, e1'⟩ := List.getElem?_eq_some_iff.mp hn
      obtain ⟨h2, e2'⟩ := List.getElem?_eq_some_iff.mp e1
      exact (List.getElem_inj S.nd).mp (e1'.trans e2'.symm)
  tab := by
    obtain ⟨c0, _, r⟩ := S.has hn
    refine TO.upd H a o S.tab (fun ps z => ?_) (fun ps z => ?_)
    · cases c0 with
      | lst l => obtain ⟨_, e, _⟩ := r; rw [z] at e; cases e
      | dct b l => cases b <;> (first | (obtain ⟨_, e, _⟩ := r; rw [z] at e; cases e) | (obtain ⟨_, _, e, _⟩ := r; rw [z] at e; cases e))
      | ins c l => obtain ⟨_, _, e, _⟩ := r; rw [z] at e; cases e
    · cases c0 with
      | lst l => obtain ⟨_, e, _⟩ := r; rw [z] at e; cases e
      | dct b l => cases b <;> (first | (obtain ⟨_, e, _⟩ := r; rw [z] at e; cases e) | (obtain ⟨_, _, e, _⟩ := r; rw [z] at e; cases e))
      | ins c l => obtain ⟨_, _, e, _⟩ := r; rw [z] at e; cases e
  hd := fun b hb => by
    obtain ⟨q, u, e⟩ := S.hd b hb
    exact ⟨q, u, (upd_ne fun z => q (by rw [z]; exact List.mem_of_getElem? hn)).trans e⟩
  kf := S.kf
end

/-! ### names -/
structure EnvR (α : Al) (H : Hp) (ρ : Env) (σ : L2.St) : Prop where
  len : ρ.length = σ.length
  val : ∀ (i : Nat) d, ρ[i]? = some (some d) → ∃ v, σ[i]? = some (some v) ∧ RD α H d v
section
variable {α α' : Al} {H H' : Hp} {ρ : Env} {σ : L2.St}
theorem EnvR.mono (r : EnvR α H ρ σ) (e : Ext α α' H H') : EnvR α' H' ρ σ := ⟨r.len, fun i d h => by
  obtain ⟨v, h1, h2⟩ := r.val i d h
  exact ⟨v, h1, h2.mono e⟩⟩
theorem EnvR.mono0 (r : EnvR α H ρ σ) (e : Ext0 α α' H H') : EnvR α' H' ρ σ := ⟨r.len, fun i d h => by
  obtain ⟨v, h1, h2⟩ := r.val i d h
  exact ⟨v, h1, h2.mono0 e⟩⟩
theorem EnvR.set (r : EnvR α H ρ σ) {i : Nat} {d : D} {v : V} (h : RD α H d v) : EnvR α H (ρ.set i (some d)) (σ.set i (some v)) := ⟨by simp [r.len], fun j e hj => by
  by_cases hij : i = j
  · subst hij
    by_cases hl : i < ρ.length
    · rw [List.getElem?_set_self hl] at hj
      cases hj
      exact ⟨v, List.getElem?_set_self (by rw [← r.len]; exact hl), h⟩
    · rw [List.getElem?_eq_none (by simpa using hl)] at hj; cases hj
  · rw [List.getElem?_set_ne hij] at hj ⊢
    exact r.val j e hj⟩
theorem EnvR.unset (r : EnvR α H ρ σ) {i : Nat} : EnvR α H (ρ.set i none) (σ.set i none) := ⟨by simp [r.len], fun j e hj => by
  by_cases hij : i = j
  · subst hij
    by_cases hl : i < ρ.length
    · rw [List.getElem?_set_self hl] at hj
      cases hj
    · rw [List.getElem?_eq_none (by simpa using hl)] at hj; cases hj
  · rw [List.getElem?_set_ne hij] at hj ⊢
    exact r.val j e hj⟩
theorem EnvR.wipe (r : EnvR α H ρ σ) : ∀ vs : List Nat, EnvR α H (wipeE ρ vs) (L2.wipe σ vs)
  | [] => r
  | _ :: vs => (EnvR.wipe r vs).unset
end

/-! ### results -/
/-- what is asked of a result: Rel relates its value, Q is wanted -/
def OutG {β γ : Type} (Rel : Al → Hp → β → γ → Prop) (K : PySem.W.Frag) (T : Hp → Prop) (W : XK) (α : Al) (H : Hp) (r : R β) (Q : γ → Hp → Prop) : Prop :=
  match r with
  | .ok d h' => ∀ α' H' v, Ext α α' H H' → Sim K T α' h' H' → Rel α' H' d v → Q v H'
  | .exc c h' => ∀ α' H', Ext α α' H H' → Sim K T α' h' H' → W (.ref (He.ga K c)) none H'
  | .stuck => False
section
variable {β γ δ ε : Type} {Rel : Al → Hp → β → γ → Prop} {Rel' : Al → Hp → δ → ε → Prop} {K : PySem.W.Frag} {T : Hp → Prop} {W : XK} {α : Al} {H : Hp}
theorem OutG.imp {r : R β} {Q Q' : γ → Hp → Prop} (h : OutG Rel K T W α H r Q) (f : ∀ v H', Q v H' → Q' v H') : OutG Rel K T W α H r Q' := by
  cases r with
  | ok d h' => exact fun α' H' v e s x => f v H' (h α' H' v e s x)
  | exc c h' => exact h
  | stuck => exact h
theorem OutG.ext {α' : Al} {H' : Hp} {r : R β} {Q : γ → Hp → Prop} (h : OutG Rel K T W α H r Q) (e : Ext α α' H H') : OutG Rel K T W α' H' r Q := by
  cases r with
  | ok d h' => exact fun α2 H2 v e2 s x => h α2 H2 v (e.trans e2) s x
  | exc c h' => exact fun α2 H2 e2 s => h α2 H2 (e.trans e2) s
  | stuck => exact h
/-- one thing behind another -/
theorem OutG.bind {x : M β} {f : β → M δ} {h : AH} {Q : ε → Hp → Prop} (o : OutG Rel' K T W α H (M.bind x f h) Q) :
    OutG Rel K T W α H (x h) (fun v H1 => ∃ α1 h1 d, Ext α α1 H H1 ∧ Sim K T α1 h1 H1 ∧ Rel α1 H1 d v ∧ OutG Rel' K T W α1 H1 (f d h1) Q) := by
  unfold M.bind at o
  cases e : x h with
  | ok d h' =>
    rw [e] at o
    exact fun α' H' v ex s r => ⟨α', h', d, ex, s, r, OutG.ext o ex⟩
  | exc c h' => rw [e] at o; exact o
  | stuck => rw [e] at o; exact o
/-- the value itself -/
theorem OutG.pure {d : β} {h : AH} {v : γ} {Q : γ → Hp → Prop} (o : OutG Rel K T W α H (.ok d h) Q) (s : Sim K T α h H) (r : Rel α H d v) : Q v H := o α H v (.refl _ _) s r
end
abbrev Out (K : PySem.W.Frag) (T : Hp → Prop) (W : XK) (α : Al) (H : Hp) (r : R D) (Q : VK) : Prop := OutG RD K T W α H r Q
/-- a reading, from a denotation -/
def tG {β γ : Type} (Rel : Al → Hp → β → γ → Prop) (K : PySem.W.Frag) (T : Hp → Prop) (W : XK) (F : Env → M β) : L2.St → Hp → (γ → Hp → Prop) → Prop := fun σ H Q =>
  ∃ α ρ h, EnvR α H ρ σ ∧ Sim K T α h H ∧ OutG Rel K T W α H (F ρ h) Q
abbrev tF (K : PySem.W.Frag) (T : Hp → Prop) (W : XK) (F : Env → M D) : TE := tG RD K T W F
abbrev RB (α : Al) (H : Hp) (b c : Bool) : Prop := b = c
abbrev RO (α : Al) (H : Hp) (b c : Option Int) : Prop := b = c
abbrev tFT (K : PySem.W.Frag) (T : Hp → Prop) (W : XK) (F : Env → M Bool) : TT := tG RB K T W F
abbrev tFA (K : PySem.W.Frag) (T : Hp → Prop) (W : XK) (F : Env → M (List D)) : TA := tG RDs K T W F
end Cr
set_option Elab.async false
set_option linter.all false
set_option maxRecDepth 100000
set_option maxHeartbeats 4000000
/-! Tuples times 0 and 1; how often a number is in a tuple. -/
namespace Cr
open PySem PySem.Spec PyProof.Rows L2
theorem mulT_same (l : Addr) (items : Array Value) (n : Nat) (dd : Option Addr) (sl : Array (Option Value)) (x : Int) (u : Tok) (z0 : (decide (x < -(2 ^ 63)) || decide (x ≥ 2 ^ 63)) = false) (z1 : (items.isEmpty || x == 1) = true) :
    Meets (Builtin.«tuple.__mul__» ⟨[.ref l, .int x u], []⟩) (fun _ R s => s.heap.get? l = some { cls := .type "tuple", dict := dd, data := .seq items n, slots := sl } ∧ R (.ok (.ret (.ref l))) s) :=
  .of_wp fun prog w A R s h => by
    obtain ⟨hp, g, d, tk, os⟩ := s
    obtain ⟨hl, h⟩ := h
    have idx := AutoSeq1.idx_int
    wp_walk using wpAny_loadPart' hl
    refine wpAny_ite_false (decide_eq_false (by rw [z0]; exact Bool.false_ne_true)) ?_
    wp_walk using wpAny_loadPart' hl
    exact ⟨_, rfl, h⟩
theorem mulT_none (l : Addr) (items : Array Value) (n : Nat) (dd : Option Addr) (sl : Array (Option Value)) (x : Int) (u : Tok) (z0 : (decide (x < -(2 ^ 63)) || decide (x ≥ 2 ^ 63)) = false) (z1 : (items.isEmpty || x == 1) = false) (z2 : (decide (x ≤ 0) || items.isEmpty) = true) :
    Meets (Builtin.«tuple.__mul__» ⟨[.ref l, .int x u], []⟩) (fun _ R s => s.heap.get? l = some { cls := .type "tuple", dict := dd, data := .seq items n, slots := sl } ∧ R (.ok (.ret (Value.ref s.heap.objs.size))) { s with heap := s.heap.push { cls := Value.type "tuple", data := Data.seq #[] }, toks := s.toks }) :=
  .of_wp fun prog w A R s h => by
    obtain ⟨hp, g, d, tk, os⟩ := s
    obtain ⟨hl, h⟩ := h
    have idx := AutoSeq1.idx_int
    wp_walk using wpAny_loadPart' hl
    refine wpAny_ite_false (decide_eq_false (by rw [z0]; exact Bool.false_ne_true)) ?_
    wp_walk using wpAny_loadPart' hl
    exact ⟨_, rfl, h⟩
section
variable {X : Cx}
def rMulS (K : PySem.W.Frag) : R2 := fun x y H Q => ∃ l k xs, x = .ref l ∧ y = .int k ∧ SqT K H l xs ∧ -(2 ^ 63) ≤ k ∧ k < 2 ^ 63 ∧ (xs = [] ∨ k = 1) ∧ Q (.ref l) H
theorem op_mulS : OpR X (binaryOp .Mult) (rMulS X.K) := by
  intro pins s σ H x y v u Q I rx ry h
  obtain ⟨l, k, xs, rfl, rfl, hT, lo, hi, hc, q⟩ := h
  cases rx
  obtain ⟨t, rfl⟩ := ry
  obtain ⟨its, r, ⟨⟨cls, dd, data, sl⟩, ho, hcl, n, hd⟩, hs⟩ := I.tuple hT
  simp only at hcl hd
  subst hcl hd
  have z0 : (decide (k < -(2 ^ 63)) || decide (k ≥ 2 ^ 63)) = false := by rw [decide_eq_false (by omega), decide_eq_false (by omega), Bool.or_false]
  have z1 : (its.toArray.isEmpty || k == 1) = true := by
    rcases hc with e | e
    · subst e
      cases r
      rfl
    · subst e
      simp
  exact wpAny_binaryOp_repeat_ref (T := "tuple") (U := "int") (by decide) ⟨_, ho, rfl⟩ (fun s' => typeIs_int s' k t) noFill_tuple_mul F.fills_int_mul F.slot_int_rmul repeat_tuple F.slot_int_index.lookup
    (call_meets F.slot_int_rmul (typeIs_int s k t) F.entry_int_rmul (F.args_int_rmul_2 _ _) (int_rmul_tuple k t l its.toArray n dd sl)
      ⟨ho, rfl, ⟨_, ho, rfl⟩, call_meets F.slot_tuple_mul ⟨_, ho, rfl⟩ F.entry_tuple_mul (F.args_tuple_mul_2 _ _) (mulT_same l its.toArray n dd sl k t z0 z1) ⟨ho, .ref l, H, I, rfl, q⟩⟩)
def rMulN (K : PySem.W.Frag) : R2 := fun x y H Q => ∃ l k xs, x = .ref l ∧ y = .int k ∧ SqT K H l xs ∧ -(2 ^ 63) ≤ k ∧ xs ≠ [] ∧ k ≤ 0 ∧ ∀ p, H p = none → Q (.ref p) (upd H p (.tup []))
theorem op_mulN : OpR X (binaryOp .Mult) (rMulN X.K) := by
  intro pins s σ H x y v u Q I rx ry h
  obtain ⟨l, k, xs, rfl, rfl, hT, lo, hne, hk, q⟩ := h
  cases rx
  obtain ⟨t, rfl⟩ := ry
  obtain ⟨its, r, ⟨⟨cls, dd, data, sl⟩, ho, hcl, n, hd⟩, hs⟩ := I.tuple hT
  simp only at hcl hd
  subst hcl hd
  have z0 : (decide (k < -(2 ^ 63)) || decide (k ≥ 2 ^ 63)) = false := by rw [decide_eq_false (by omega), decide_eq_false (by omega), Bool.or_false]
  have hi : its.toArray.isEmpty = false := by
    cases r with
    | nil => exact absurd rfl hne
    | cons _ _ => rfl
  have z1 : (its.toArray.isEmpty || k == 1) = false := by rw [hi, Bool.false_or]; exact beq_eq_false_iff_ne.mpr (by omega)
  have z2 : (decide (k ≤ 0) || its.toArray.isEmpty) = true := by rw [decide_eq_true hk, Bool.true_or]
  refine wpAny_binaryOp_repeat_ref (T := "tuple") (U := "int") (by decide) ⟨_, ho, rfl⟩ (fun s' => typeIs_int s' k t) noFill_tuple_mul F.fills_int_mul F.slot_int_rmul repeat_tuple F.slot_int_index.lookup
    (call_meets F.slot_int_rmul (typeIs_int s k t) F.entry_int_rmul (F.args_int_rmul_2 _ _) (int_rmul_tuple k t l its.toArray n dd sl)
      ⟨ho, rfl, ⟨_, ho, rfl⟩, call_meets F.slot_tuple_mul ⟨_, ho, rfl⟩ F.entry_tuple_mul (F.args_tuple_mul_2 _ _) (mulT_none l its.toArray n dd sl k t z0 z1 z2) ⟨ho, ?_⟩⟩)
  exact ⟨.ref s.heap.objs.size, _, I.laid (t' := s.toks) (o := .tup []) (fun b ob q => Heap.get?_push_of_some _ q) (Nat.le_refl _) ⟨Nat.zero_le _, [], .nil, IsTup.new _ _⟩, rfl, q _ (I.hok.fresh (Nat.le_refl _))⟩
end
end Cr
set_option Elab.async false
set_option linter.all false
set_option maxRecDepth 100000
set_option maxHeartbeats 1000000
/-! Operators: what the abstract ones answer, the model does. -/
namespace Cr
open PySem PySem.Spec PyProof.Rows L2
section
variable {K : PySem.W.Frag} {T : Hp → Prop} {W : XK} {α : Al} {h : AH} {H : Hp}

theorem out_newL (TO : TabOk T) {mk : Bool} {l : List D} {vs : List V} {Q : VK} (o : Out K T W α H (newL mk l h) Q) (S : Sim K T α h H) (r : RDs α H l vs) (hl : l.length ≤ sizeLine) (p : Addr) (hp : H p = none) : Q (.ref p) (upd H p (.lst vs)) := by
  cases mk with
  | true =>
    have c : CellR K (α.snoc p) (upd H p (.lst vs)) p (.lst l) := ⟨vs, upd_same, r.mono (S.ext hp), hl⟩
    exact o (α.snoc p) _ (.ref p) (S.ext hp) (S.snoc (TO := TO) hp c) (.ref (by rw [← S.len]; simp [Al.snoc]))
  | false => exact o α _ (.ref p) (S.fresh hp) (S.upd (TO := TO) hp) (.lst upd_same (S.free hp) hl (r.mono (S.fresh hp)))
theorem out_tup (TO : TabOk T) {l : List D} {vs : List V} {Q : VK} (o : Out K T W α H (.ok (.tup l) h) Q) (S : Sim K T α h H) (r : RDs α H l vs) (hl : l.length ≤ sizeLine) (p : Addr) (hp : H p = none) : Q (.ref p) (upd H p (.tup vs)) :=
  o α _ (.ref p) (S.fresh hp) (S.upd (TO := TO) hp) (.tup upd_same (S.free hp) hl (r.mono (S.fresh hp)))
theorem most_le : most ≤ sizeLine := by decide
theorem bind_ok {β γ : Type} {x : M β} {f : β → M γ} {b : β} {h h' : AH} (e : x h = .ok b h') : (x >>= f) h = f b h' := by
  show M.bind x f h = _
  unfold M.bind
  rw [e]
theorem bind_stuck {β γ : Type} {x : M β} {f : β → M γ} {h : AH} (e : x h = .stuck) : (x >>= f) h = .stuck := by
  show M.bind x f h = _
  unfold M.bind
  rw [e]
theorem getC_ok {n : Nat} {c : Cell} {h : AH} (e : h[n]? = some c) : getC n h = .ok c h := by unfold getC; rw [e]
/-- the items of a list or tuple -/
theorem items_any (S : Sim K T α h H) {a : D} {x : V} (r : RD α H a x) : (∃ l vs p, items a h = .ok l h ∧ x = .ref p ∧ RDs α H l vs ∧ l.length ≤ sizeLine ∧ ((isL a = true ∧ H p = some (.lst vs)) ∨ (isL a = false ∧ H p = some (.tup vs)))) ∨ items a h = .stuck := by
  cases r with
  | non => exact .inr rfl
  | bl b => exact .inr rfl
  | int i => exact .inr rfl
  | str x => exact .inr rfl
  | tup e _ hl rs => exact .inl ⟨_, _, _, rfl, rfl, rs, hl, .inr ⟨rfl, e⟩⟩
  | lst e _ hl rs => exact .inl ⟨_, _, _, rfl, rfl, rs, hl, .inl ⟨rfl, e⟩⟩
  | scr e hl => exact .inr rfl
  | @ref n a e =>
    obtain ⟨c, hc, cr⟩ := S.has e
    cases c with
    | lst l =>
      obtain ⟨vs, e1, r1, z⟩ := cr
      exact .inl ⟨l, vs, a, bind_ok (getC_ok hc), rfl, r1, z, .inl ⟨rfl, e1⟩⟩
    | dct b l => exact .inr (bind_ok (getC_ok hc))
    | ins c l => exact .inr (bind_ok (getC_ok hc))
/-- a two-place operation of data as a reading -/
def rD2 (K : PySem.W.Frag) (T : Hp → Prop) (g : D → D → M D) : R2 := fun x y H Q => ∃ α h b c W, Sim K T α h H ∧ RD α H b x ∧ RD α H c y ∧ Out K T W α H (g b c h) Q
variable {X : Cx}
theorem op_addM (TO : TabOk T) (hK : X.K = K) {mk : Bool} : OpR X (binaryOp .Add) (rD2 K T (addM mk)) := by
  subst hK
  intro pins s σ₀ H x y v u Q I rx ry ⟨α, h, b, c, W, S, rb, rc, o⟩
  unfold addM at o
  split at o
  · cases rb; cases rc
    exact op_add pins s σ₀ H _ _ v u Q I rx ry ⟨_, _, rfl, rfl, o.pure S (.int _)⟩
  · cases rb; cases rc
    split at o
    · rename_i hl
      exact op_add_str pins s σ₀ H _ _ v u Q I rx ry ⟨_, _, rfl, rfl, Nat.le_trans hl most_le, o.pure S (.str _)⟩
    · exact o.elim
  · rename_i l r
    split at o
    · rename_i hl
      cases rb with
      | @tup a _ vs ea na la ra =>
        cases rc with
        | @tup b _ ws eb nb lb rb =>
          have hz : l.length + r.length ≤ sizeLine := Nat.le_trans hl most_le
          refine op_catA pins s σ₀ H _ _ v u Q I rx ry ⟨a, b, vs, ws, rfl, rfl, SqT.of ea, SqT.of eb, by rw [← ra.length, ← rb.length]; exact hz, fun e => ?_, fun _ e => ?_, fun _ _ p hp => ?_⟩
          · subst e
            have z : l = [] := by have := ra.length; simpa using this
            subst z
            exact o.pure S (.tup eb nb lb rb)
          · subst e
            have z : r = [] := by have := rb.length; simpa using this
            subst z
            rw [List.append_nil] at o
            exact o.pure S (.tup ea na la ra)
          · exact out_tup TO o S (ra.append rb) (by rw [List.length_append]; exact hz) p hp
    · exact o.elim
  · rename_i n1 n2 n3
    split at o
    · rename_i hb
      obtain ⟨h1, h2⟩ := Bool.and_eq_true_iff.mp hb
      rcases items_any S rb with ⟨l, vs, p, e1, rfl, r1, z1, q1⟩ | e1
      · rcases items_any S rc with ⟨l2, vs2, p2, e2, rfl, r2, z2, q2⟩ | e2
        · have o' : Out X.K T W α H ((if l.length + l2.length ≤ most then newL mk (l ++ l2) else M.stuck) h) Q := by
            rw [bind_ok e1, bind_ok e2] at o
            exact o
          rcases q1 with ⟨_, q1⟩ | ⟨z, _⟩
          · rcases q2 with ⟨_, q2⟩ | ⟨z, _⟩
            · split at o'
              · rename_i hl
                have hz : l.length + l2.length ≤ sizeLine := Nat.le_trans hl most_le
                exact op_cat pins s σ₀ H _ _ v u Q I rx ry ⟨p, p2, vs, vs2, rfl, rfl, q1, q2, by rw [← r1.length, ← r2.length]; exact hz, fun q hq => out_newL TO o' S (r1.append r2) (by rw [List.length_append]; exact hz) q hq⟩
              · exact o'.elim
            · rw [h2] at z; cases z
          · rw [h1] at z; cases z
        · rw [bind_ok e1, bind_stuck e2] at o
          exact o.elim
      · rw [bind_stuck e1] at o
        exact o.elim
    · exact o.elim
theorem op_subM (hK : X.K = K) : OpR X (binaryOp .Sub) (rD2 K T subM) := by
  intro pins s σ₀ H x y v u Q I rx ry ⟨α, h, b, c, W, S, rb, rc, o⟩
  unfold subM at o
  split at o
  · cases rb; cases rc
    exact op_sub pins s σ₀ H _ _ v u Q I rx ry ⟨_, _, rfl, rfl, o.pure S (.int _)⟩
  · exact o.elim
theorem small_ok {i : Int} (h : small i = true) : -(2 ^ 64) < i ∧ i < 2 ^ 64 := by
  have := of_decide_eq_true h
  constructor <;> omega
theorem wide_ok {i : Int} (h : wide i = true) : i.natAbs < 2 ^ 600 := of_decide_eq_true h
theorem op_mulM (TO : TabOk T) (hK : X.K = K) {mk : Bool} : OpR X (binaryOp .Mult) (rD2 K T (mulM mk)) := by
  subst hK
  intro pins s σ₀ H x y v u Q I rx ry ⟨α, h, b, c, W, S, rb, rc, o⟩
  unfold mulM at o
  split at o
  · cases rb; cases rc
    split at o
    · rename_i hb
      simp only [Bool.or_eq_true, Bool.and_eq_true] at hb
      rcases hb with (hb | hb) | ⟨h1, h2⟩
      · exact op_mul pins s σ₀ H _ _ v u Q I rx ry ⟨_, _, rfl, rfl, .inl (small_ok hb), o.pure S (.int _)⟩
      · exact op_mul pins s σ₀ H _ _ v u Q I rx ry ⟨_, _, rfl, rfl, .inr (small_ok hb), o.pure S (.int _)⟩
      · exact op_mulW pins s σ₀ H _ _ v u Q I rx ry ⟨_, _, rfl, rfl, wide_mul (wide_ok h1) (wide_ok h2) (by decide) (by decide) (by decide), o.pure S (.int _)⟩
    · exact o.elim
  · rename_i l k
    cases rc
    cases rb with
    | @tup a _ vs ea na la ra =>
      split at o
      · rename_i hc
        split at o
        · rename_i hk
          refine op_mulS pins s σ₀ H _ _ v u Q I rx ry ⟨a, k, vs, rfl, rfl, SqT.of ea, hk.1, hk.2, ?_, o.pure S (.tup ea na la ra)⟩
          rcases hc with e | e
          · exact .inr e
          · subst e
            left
            cases ra
            rfl
        · exact o.elim
      · rename_i hc
        have hne : vs ≠ [] := by
          rintro rfl
          cases ra
          exact hc (.inr rfl)
        split at o
        · rename_i h0
          split at o
          · rename_i hk
            exact op_mulN pins s σ₀ H _ _ v u Q I rx ry ⟨a, k, vs, rfl, rfl, SqT.of ea, hk, hne, h0, fun p hp => out_tup TO o S .nil (Nat.zero_le _) p hp⟩
          · exact o.elim
        · rename_i h0
          split at o
          · rename_i hk
            have k2 : 2 ≤ k := by
              rcases Int.lt_or_le k 2 with z | z
              · exact absurd (Or.inl (show k = 1 by omega)) hc
              · exact z
            refine op_repT pins s σ₀ H _ _ v u Q I rx ry ⟨a, k, vs, rfl, rfl, SqT.of ea, hne, k2, hk.1, by rw [← ra.length]; exact hk.2, fun p hp => out_tup TO o S (ra.rep _) ?_ p hp⟩
            rw [PyProof.Rows.lm_len_rep_flat, sizeLine_eq]
            have a1 : k.toNat * l.length ≤ 1000 * 1000 := Nat.mul_le_mul (by omega) hk.2
            omega
          · exact o.elim
  · rename_i l k
    split at o
    · rename_i hb
      simp only [Bool.and_eq_true, decide_eq_true_eq] at hb
      obtain ⟨⟨h1, h2⟩, h3⟩ := hb
      cases rc
      cases rb with
      | @lst a _ vs ea na la ra =>
        have hz : l.length * k.toNat ≤ sizeLine := Nat.le_trans h1 most_le
        exact op_rep pins s σ₀ H _ _ v u Q I rx ry ⟨a, k, vs, rfl, rfl, ea, h2, h3, by rw [← ra.length]; exact hz, fun q hq => out_newL TO o S (ra.rep _) (by simp; rw [Nat.mul_comm]; exact hz) q hq⟩
    · exact o.elim
  · exact o.elim
theorem op_fdivM (hK : X.K = K) : OpR X (binaryOp .FloorDiv) (rD2 K T fdivM) := by
  intro pins s σ₀ H x y v u Q I rx ry ⟨α, h, b, c, W, S, rb, rc, o⟩
  unfold fdivM at o
  split at o
  · cases rb; cases rc
    split at o
    · rename_i hb
      exact op_fdivW pins s σ₀ H _ _ v u Q I rx ry ⟨_, _, rfl, rfl, wide_div hb.1 (wide_ok hb.2) (by decide) (by decide), o.pure S (.int _)⟩
    · exact o.elim
  · exact o.elim
theorem op_modM (hK : X.K = K) : OpR X (binaryOp .Mod) (rD2 K T modM) := by
  intro pins s σ₀ H x y v u Q I rx ry ⟨α, h, b, c, W, S, rb, rc, o⟩
  unfold modM at o
  split at o
  · cases rb; cases rc
    split at o
    · rename_i hb
      exact op_mod pins s σ₀ H _ _ v u Q I rx ry ⟨_, _, rfl, rfl, hb, o.pure S (.int _)⟩
    · exact o.elim
  · exact o.elim
theorem op_powM (hK : X.K = K) : OpR X (binaryOp .Pow) (rD2 K T powM) := by
  intro pins s σ₀ H x y v u Q I rx ry ⟨α, h, b, c, W, S, rb, rc, o⟩
  unfold powM at o
  split at o
  · cases rb; cases rc
    split at o
    · rename_i hb
      exact op_pow pins s σ₀ H _ _ v u Q I rx ry ⟨_, _, rfl, rfl, ⟨hb.1, by omega, of_decide_eq_true hb.2.2⟩, o.pure S (.int _)⟩
    · exact o.elim
  · exact o.elim
theorem op_binM (TO : TabOk T) (hK : X.K = K) {mk : Bool} {op : Operator} : OpR X (binaryOp op) (rD2 K T (binM op mk)) := by
  have no : ∀ {f : Value → Value → Sem Value}, OpR X f (rD2 K T fun _ _ => M.stuck) := fun {f} => by
    intro pins s σ₀ H x y v u Q I rx ry ⟨α, h, b, c, W, S, rb, rc, o⟩
    exact o.elim
  cases op <;> first | exact op_addM TO hK | exact op_subM hK | exact op_mulM TO hK | exact op_fdivM hK | exact op_modM hK | exact op_powM hK | exact no
end
end Cr
set_option Elab.async false
set_option linter.all false
set_option maxRecDepth 100000
set_option maxHeartbeats 1000000
/-! Comparisons, subscripts, slices, stores, fields. -/
namespace Cr
open PySem PySem.Spec PyProof.Rows L2
section
variable {K : PySem.W.Frag} {T : Hp → Prop} {W : XK} {α : Al} {h : AH} {H : Hp}

/-! ### data as a whole -/
theorem depthAll_le : ∀ {ds : List PyData} {k : Nat}, (∀ d ∈ ds, d.depth ≤ k) → PyData.depthAll ds ≤ k
  | [], _, _ => Nat.zero_le _
  | d :: r, k, f => by
    show max d.depth (PyData.depthAll r) ≤ k
    exact Nat.max_le.mpr ⟨f d List.mem_cons_self, depthAll_le fun e he => f e (List.mem_cons_of_mem _ he)⟩
theorem canLayAll_of : ∀ {ds : List PyData}, (∀ d ∈ ds, d.canLay0 = true) → PyData.canLayAll0 ds = true
  | [], _ => rfl
  | d :: r, f => by
    show (d.canLay0 && PyData.canLayAll0 r) = true
    rw [f d List.mem_cons_self, canLayAll_of fun e he => f e (List.mem_cons_of_mem _ he)] <;> rfl
/-- what emb gives stands there -/
def EmbP (K : PySem.W.Frag) (H : Hp) (k : Nat) (x : V) (d : PyData) : Prop := Dp K H x d ∧ d.canLay0 = true ∧ d.depth ≤ k
theorem mapM_some {β γ : Type} {f : β → Option γ} : ∀ {l : List β} {ds : List γ}, l.mapM f = some ds → ds.length = l.length ∧ ∀ (i : Nat) b, l[i]? = some b → ∃ d, ds[i]? = some d ∧ f b = some d
  | [], ds, h => by
    simp at h
    subst h
    exact ⟨rfl, fun i b e => by simp at e⟩
  | b :: r, ds, h => by
    rw [List.mapM_cons] at h
    cases e1 : f b with
    | none => rw [e1] at h; cases h
    | some d =>
      rw [e1] at h
      cases e2 : r.mapM f with
      | none => rw [e2] at h; cases h
      | some es =>
        rw [e2] at h
        cases h
        obtain ⟨h1, h2⟩ := mapM_some e2
        refine ⟨by simp [h1], fun i b' e => ?_⟩
        cases i with
        | zero => simp at e; subst e; exact ⟨d, rfl, e1⟩
        | succ i => exact h2 i b' (by simpa using e)
theorem dpAll_of {k : Nat} : ∀ {l : List D} {vs : List V} {ds : List PyData}, RDs α H l vs → (∀ d v e, RD α H d v → emb k h d = some e → EmbP K H k v e) → l.mapM (emb k h) = some ds → DpAll K H vs ds ∧ PyData.canLayAll0 ds = true ∧ PyData.depthAll ds ≤ k
  | _, _, ds, .nil, _, e => by
    simp at e
    subst e
    exact ⟨.nil, rfl, Nat.zero_le _⟩
  | _, _, ds, .cons (d := d) (l := l) r rs, f, e => by
    rw [List.mapM_cons] at e
    cases e1 : emb k h d with
    | none => rw [e1] at e; cases e
    | some x =>
      rw [e1] at e
      cases e2 : l.mapM (emb k h) with
      | none => rw [e2] at e; cases e
      | some xs =>
        rw [e2] at e
        cases e
        obtain ⟨p1, p2, p3⟩ := f _ _ _ r e1
        obtain ⟨q1, q2, q3⟩ := dpAll_of rs f e2
        refine ⟨.cons p1 q1, ?_, ?_⟩
        · show (x.canLay0 && PyData.canLayAll0 xs) = true
          rw [p2, q2] <;> rfl
        · exact Nat.max_le.mpr ⟨p3, q3⟩
theorem dp_ints (ns : List Int) : DpAll K H (ns.map V.int) (ns.map PyData.int) := by
  induction ns with
  | nil => exact .nil
  | cons n r ih => exact .cons (.int n) ih
theorem canLay_ints (ns : List Int) : PyData.canLayAll0 (ns.map PyData.int) = true := canLayAll_of fun d hd => by
  obtain ⟨n, _, rfl⟩ := List.mem_map.mp hd
  rfl
theorem depth_ints (ns : List Int) : PyData.depthAll (ns.map PyData.int) ≤ 0 := depthAll_le fun d hd => by
  obtain ⟨n, _, rfl⟩ := List.mem_map.mp hd
  exact Nat.le_refl _
theorem emb_ok (S : Sim K T α h H) : ∀ {k : Nat} {a : D} {x : V} {d : PyData}, RD α H a x → emb k h a = some d → EmbP K H k x d
  | 0, _, _, _, _, e => by cases e
  | k + 1, _, _, _, .non, e => by cases e; exact ⟨.non, rfl, Nat.zero_le _⟩
  | k + 1, _, _, _, .bl b, e => by cases e; exact ⟨.bl b, rfl, Nat.zero_le _⟩
  | k + 1, _, _, _, .int i, e => by cases e; exact ⟨.int i, rfl, Nat.zero_le _⟩
  | k + 1, _, _, d, .str x, e => by
    have e' : (if PyData.strOk x then some (PyData.str x) else none) = some d := e
    split at e'
    · rename_i hs
      cases e'
      exact ⟨.str x, hs, Nat.zero_le _⟩
    · cases e'
  | k + 1, _, _, d, .tup (l := l) ea na la rs, e => by
    have e' : (l.mapM (emb k h)).map PyData.tuple = some d := e
    obtain ⟨ds, e1, rfl⟩ := Option.map_eq_some_iff.mp e'
    obtain ⟨q1, q2, q3⟩ := dpAll_of rs (fun _ _ _ r z => emb_ok S r z) e1
    exact ⟨.tup (SqT.of ea) q1, q2, Nat.succ_le_succ q3⟩
  | k + 1, _, _, d, .lst (l := l) ea na la rs, e => by
    have e' : (l.mapM (emb k h)).map PyData.list = some d := e
    obtain ⟨ds, e1, rfl⟩ := Option.map_eq_some_iff.mp e'
    obtain ⟨q1, q2, q3⟩ := dpAll_of rs (fun _ _ _ r z => emb_ok S r z) e1
    exact ⟨.lst (SqL.of ea) q1, q2, Nat.succ_le_succ q3⟩
  | k + 1, _, _, d, .scr (l := l) ea la, e => by
    have e' : some (PyData.list (l.map .int)) = some d := e
    cases e'
    refine ⟨.lst (S.kf ▸ ea.sq) (dp_ints l), canLay_ints l, ?_⟩
    show PyData.depthAll (l.map PyData.int) + 1 ≤ k + 1
    have := depth_ints l
    omega
  | k + 1, _, _, d, .ref (n := n) (a := a) en, e => by
    obtain ⟨c, hc, cr⟩ := S.has en
    have e' : (match h[n]? with | some (.lst l) => (l.mapM (emb k h)).map PyData.list | _ => none) = some d := e
    rw [hc] at e'
    cases c with
    | lst l =>
      obtain ⟨vs, e1, rs, _⟩ := cr
      obtain ⟨ds, e2, rfl⟩ := Option.map_eq_some_iff.mp (show (l.mapM (emb k h)).map PyData.list = some d from e')
      obtain ⟨q1, q2, q3⟩ := dpAll_of rs (fun _ _ _ r z => emb_ok S r z) e2
      exact ⟨.lst (SqL.of e1) q1, q2, Nat.succ_le_succ q3⟩
    | dct b l => cases e'
    | ins c l => cases e'
theorem EmbP.shaped {k : Nat} {x : V} {d : PyData} (p : EmbP K H k x d) (hk : k ≤ 64 := by decide) : SeqAt.shaped d = true := by
  unfold SeqAt.shaped
  rw [p.2.1, decide_eq_true (Nat.le_trans p.2.2 hk)] <;> rfl

/-! ### comparisons -/
/-- a comparison of data as a reading -/
abbrev rDB (K : PySem.W.Frag) (T : Hp → Prop) (g : D → D → M Bool) : R2 := rD2 K T fun a b => do pure (.bl (← g a b))
theorem out_bl {x : M Bool} {b : Bool} {Q : VK} (o : Out K T W α H ((do pure (D.bl (← x)) : M D) h) Q) (S : Sim K T α h H) (e : x h = .ok b h) : Q (.bl b) H := by
  rw [bind_ok e] at o
  exact o.pure S (.bl b)
theorem out_no {x : M Bool} {Q : VK} (o : Out K T W α H ((do pure (D.bl (← x)) : M D) h) Q) (e : x h = .stuck) : False := by
  rw [bind_stuck e] at o
  exact o
theorem eqM_cases (a b : D) (h : AH) : (∃ x y, emb 8 h a = some x ∧ emb 8 h b = some y ∧ eqM a b h = .ok (PyData.eqv x y) h) ∨ eqM a b h = .stuck := by
  unfold eqM
  cases e1 : emb 8 h a with
  | none => exact .inr rfl
  | some x =>
    cases e2 : emb 8 h b with
    | none => exact .inr rfl
    | some y => exact .inl ⟨x, y, rfl, rfl, rfl⟩
variable {X : Cx}
theorem op_eqM (hK : X.K = K) (hu : X.A.units + 70 < cLine) : OpR X (compareOp .Eq) (rDB K T eqM) := by
  subst hK
  intro pins s σ₀ H x y v u Q I rx ry ⟨α, h, b, c, W, S, rb, rc, o⟩
  rcases eqM_cases b c h with ⟨d, e, e1, e2, e3⟩ | e3
  · have p1 := emb_ok S rb e1
    have p2 := emb_ok S rc e2
    exact op_eqD (by omega) pins s σ₀ H x y v u Q I rx ry ⟨d, e, p1.1, p2.1, p1.shaped, p2.shaped, out_bl o S e3⟩
  · exact (out_no o e3).elim
theorem op_neM (hK : X.K = K) (hu : X.A.units + 70 < cLine) : OpR X (compareOp .NotEq) (rDB K T fun a b => do return !(← eqM a b)) := by
  subst hK
  intro pins s σ₀ H x y v u Q I rx ry ⟨α, h, b, c, W, S, rb, rc, o⟩
  rcases eqM_cases b c h with ⟨d, e, e1, e2, e3⟩ | e3
  · have p1 := emb_ok S rb e1
    have p2 := emb_ok S rc e2
    exact op_neD (by omega) pins s σ₀ H x y v u Q I rx ry ⟨d, e, p1.1, p2.1, p1.shaped, p2.shaped, out_bl o S (bind_ok e3)⟩
  · exact (out_no o (bind_stuck e3)).elim
theorem op_cmpI {op : CmpOp} {f : Int → Int → Bool} (hr : OpR X (compareOp op) (rI0 fun i j => .bl (f i j))) : OpR X (compareOp op) (rDB K T (cmpI f)) := by
  intro pins s σ₀ H x y v u Q I rx ry ⟨α, h, b, c, W, S, rb, rc, o⟩
  cases rb <;> first
    | exact (out_no o rfl).elim
    | (cases rc <;> first
        | exact (out_no o rfl).elim
        | exact hr pins s σ₀ H _ _ v u Q I rx ry ⟨_, _, rfl, rfl, out_bl o S rfl⟩)
theorem inL_cases (a : D) (l : List D) (h : AH) : (∃ x ys, emb 8 h a = some x ∧ l.mapM (emb 8 h) = some ys ∧ inL a l h = .ok (ys.any fun y => PyData.eqv y x) h) ∨ inL a l h = .stuck := by
  unfold inL
  cases e1 : emb 8 h a with
  | none => exact .inr rfl
  | some x =>
    cases e2 : l.mapM (emb 8 h) with
    | none => exact .inr rfl
    | some ys => exact .inl ⟨x, ys, rfl, rfl, rfl⟩
/-! dict keys -/
theorem toKey_ok {d : D} {k : Key} {v : V} (e : toKey d = some k) (r : RD α H d v) : v = kV k := by
  cases r <;> first | (cases e; rfl) | cases e
theorem toKeys_all : ∀ {l : List D} {vs : List V} {ks : List Key}, RDs α H l vs → l.mapM toKey = some ks → vs = ks.map kV
  | _, _, ks, .nil, e => by
    simp at e
    subst e
    rfl
  | _, _, ks, .cons (d := d) (l := r) r1 rs, e => by
    rw [List.mapM_cons] at e
    cases e1 : toKey d with
    | none => rw [e1] at e; cases e
    | some k =>
      rw [e1] at e
      cases e2 : r.mapM toKey with
      | none => rw [e2] at e; cases e
      | some ks' =>
        rw [e2] at e
        cases e
        rw [toKey_ok e1 r1, toKeys_all rs e2] <;> rfl
theorem toKeys_ok {d : D} {ks : List Key} {v : V} (e : toKeys d = some ks) (r : RD α H d v) : ∃ b, v = .ref b ∧ H b = some (.tup (ks.map kV)) := by
  cases r with
  | tup ea na la rs => exact ⟨_, rfl, by rw [← toKeys_all rs e]; exact ea⟩
  | _ => cases e
theorem KVR.get {ks : List Key} : ∀ {l : List (List Key × D)} {r : List (List L2.Key × V)}, KVR α H l r → (getK l ks = none ∧ valV r ks = none) ∨ ∃ d v, getK l ks = some d ∧ valV r ks = some v ∧ RD α H d v
  | _, _, .nil => .inl ⟨rfl, rfl⟩
  | _, _, .cons (k := k) (d := d) (v := v) (l := l) (r := r) h t => by
    by_cases e : k = ks
    · refine .inr ⟨d, v, ?_, valV_pos e, h⟩
      unfold getK
      rw [List.find?_cons_of_pos (by simpa using e)]
      rfl
    · have e1 : getK ((k, d) :: l) ks = getK l ks := by
        unfold getK
        rw [List.find?_cons_of_neg (by simpa using e)]
      have e2 : valV ((k, v) :: r) ks = valV r ks := valV_neg e
      rw [e1, e2]
      exact KVR.get t
theorem KVR.length : ∀ {l : List (List Key × D)} {r : List (List L2.Key × V)}, KVR α H l r → l.length = r.length
  | _, _, .nil => rfl
  | _, _, .cons _ t => by simp [KVR.length t]
/-- a dict of the abstract heap, at a key -/
theorem dct_get (S : Sim K T α h H) {n : Nat} {a : Addr} (en : α.l[n]? = some a) {lk : Bool} {kvs : List (List Key × D)} (hc : h[n]? = some (.dct lk kvs)) {c : D} {y : V} {ks : List Key} (ek : toKeys c = some ks) (rc : RD α H c y) :
    ∃ o, DGet H a y o ∧ ((getK kvs ks = none ∧ o = none) ∨ ∃ d v, getK kvs ks = some d ∧ o = some v ∧ RD α H d v) := by
  have cr := S.cell n a _ en hc
  obtain ⟨b, rfl, eb⟩ := toKeys_ok ek rc
  have : ∃ r, Rd H a (.dT r) ∧ KVR α H kvs r := by
    cases lk with
    | false => obtain ⟨r, e, k, _⟩ := cr; exact ⟨r, .inl e, k⟩
    | true => obtain ⟨o, r, e, k, _⟩ := cr; exact ⟨r, .inr ⟨o, e⟩, k⟩
  obtain ⟨r, e, k⟩ := this
  refine ⟨valV r ks, .inr ⟨r, ks, b, e, rfl, eb, rfl⟩, ?_⟩
  rcases k.get (ks := ks) with ⟨q1, q2⟩ | ⟨d, v, q1, q2, q3⟩
  · exact .inl ⟨q1, q2⟩
  · exact .inr ⟨d, v, q1, q2, q3⟩
/-- in: a list, a dict -/
theorem in_cases (S : Sim K T α h H) {b c : D} {x y : V} (rb : RD α H b x) (rc : RD α H c y) :
    (∃ d ds, inM b c h = .ok (ds.any fun z => PyData.eqv z d) h ∧ EmbP K H 8 x d ∧ EmbP K H 9 y (.list ds)) ∨ (∃ a o, inM b c h = .ok o.isSome h ∧ y = .ref a ∧ DGet H a x o) ∨ inM b c h = .stuck := by
  have lst : ∀ {l : List D} {vs : List V} {a : Addr}, RDs α H l vs → H a = some (.lst vs) → y = .ref a → inM b c h = inL b l h → (∃ d ds, inM b c h = .ok (ds.any fun z => PyData.eqv z d) h ∧ EmbP K H 8 x d ∧ EmbP K H 9 y (.list ds)) ∨ inM b c h = .stuck := fun {l vs a} rs ea ey e => by
    rw [e]
    rcases inL_cases b l h with ⟨d, ds, e1, e2, e3⟩ | e3
    · obtain ⟨q1, q2, q3⟩ := dpAll_of rs (fun _ _ _ r z => emb_ok S r z) e2
      subst ey
      exact .inl ⟨d, ds, e3, emb_ok S rb e1, .lst (SqL.of ea) q1, q2, Nat.succ_le_succ q3⟩
    · exact .inr e3
  cases rc with
  | non => exact .inr (.inr rfl)
  | bl b => exact .inr (.inr rfl)
  | int i => exact .inr (.inr rfl)
  | str x => exact .inr (.inr rfl)
  | scr _ _ => exact .inr (.inr rfl)
  | tup ea na la rs => exact .inr (.inr rfl)
  | lst ea na la rs =>
    rcases lst rs ea rfl rfl with q | q
    · exact .inl q
    · exact .inr (.inr q)
  | @ref n a en =>
    obtain ⟨c, hc, cr⟩ := S.has en
    cases c with
    | lst l =>
      obtain ⟨vs, e1, rs, _⟩ := cr
      rcases lst rs e1 rfl (bind_ok (getC_ok hc)) with q | q
      · exact .inl q
      · exact .inr (.inr q)
    | dct lk kvs =>
      refine .inr ?_
      have e : inM b (.ref n) h = (match toKeys b with | some k => pure (getK kvs k).isSome | none => M.stuck : M Bool) h := bind_ok (getC_ok hc)
      rw [e]
      cases ek : toKeys b with
      | none => exact .inr rfl
      | some ks =>
        obtain ⟨o, g, q⟩ := dct_get S en hc ek rb
        refine .inl ⟨a, o, ?_, rfl, g⟩
        rcases q with ⟨q1, q2⟩ | ⟨d, v, q1, q2, _⟩
        · show R.ok (getK kvs ks).isSome h = _
          rw [q1, q2] <;> rfl
        · show R.ok (getK kvs ks).isSome h = _
          rw [q1, q2] <;> rfl
    | ins c l => exact .inr (.inr (bind_ok (getC_ok hc)))
theorem op_inM (hK : X.K = K) (hu : X.A.units + 70 < cLine) : OpR X (compareOp .In) (rDB K T inM) := by
  subst hK
  intro pins s σ₀ H x y v u Q I rx ry ⟨α, h, b, c, W, S, rb, rc, o⟩
  rcases in_cases S rb rc with ⟨d, ds, e, p1, p2⟩ | ⟨a, ov, e, rfl, g⟩ | e
  · exact op_inD (by omega) pins s σ₀ H x y v u Q I rx ry ⟨d, ds, p1.1, p2.1, p1.shaped, p2.shaped, out_bl o S e⟩
  · obtain rfl : u = Value.ref a := ry
    exact d_in (by omega) I g rx fun s3 I3 => ⟨.bl ov.isSome, H, I3, rfl, out_bl o S e⟩
  · exact (out_no o e).elim
theorem op_notInM (hK : X.K = K) (hu : X.A.units + 70 < cLine) : OpR X (compareOp .NotIn) (rDB K T fun a b => do return !(← inM a b)) := by
  subst hK
  intro pins s σ₀ H x y v u Q I rx ry ⟨α, h, b, c, W, S, rb, rc, o⟩
  rcases in_cases S rb rc with ⟨d, ds, e, p1, p2⟩ | ⟨a, ov, e, rfl, g⟩ | e
  · exact op_notInD (by omega) pins s σ₀ H x y v u Q I rx ry ⟨d, ds, p1.1, p2.1, p1.shaped, p2.shaped, out_bl o S (bind_ok e)⟩
  · obtain rfl : u = Value.ref a := ry
    exact d_notIn (by omega) I g rx fun s3 I3 => ⟨.bl (!ov.isSome), H, I3, rfl, out_bl o S (bind_ok e)⟩
  · exact (out_no o (bind_stuck e)).elim
/-! is None -/
theorem is_none {a : D} {x : V} (ra : RD α H a x) : isM a .non h = .ok (decide (x = .non)) h := by
  cases ra <;> rfl
theorem op_isM (hK : X.K = K) : OpR X (compareOp .Is) (rDB K T isM) := by
  intro pins s σ₀ H x y v u Q I rx ry ⟨α, h, b, c, W, S, rb, rc, o⟩
  cases rc <;> first
    | exact op_isN pins s σ₀ H x _ v u Q I rx ry ⟨rfl, out_bl o S (is_none rb)⟩
    | (cases rb <;> first
        | (cases rx; cases ry
           exact wpAny_is_plain rfl ⟨.bl _, H, I, by rename_i c d; cases c <;> cases d <;> rfl, out_bl o S rfl⟩)
        | exact (out_no o rfl).elim)
    | exact (out_no o rfl).elim
theorem op_isNotM (hK : X.K = K) : OpR X (compareOp .IsNot) (rDB K T fun a b => do return !(← isM a b)) := by
  intro pins s σ₀ H x y v u Q I rx ry ⟨α, h, b, c, W, S, rb, rc, o⟩
  cases rc <;> first
    | exact op_notN pins s σ₀ H x _ v u Q I rx ry ⟨rfl, out_bl o S (bind_ok (is_none rb))⟩
    | (cases rb <;> first
        | (cases rx; cases ry
           exact wpAny_isNot_plain rfl ⟨.bl _, H, I, by rename_i c d; cases c <;> cases d <;> rfl, out_bl o S (bind_ok rfl)⟩)
        | exact (out_no o rfl).elim)
    | exact (out_no o rfl).elim
theorem op_cmpM (hK : X.K = K) (hu : X.A.units + 70 < cLine) {op : CmpOp} : OpR X (compareOp op) (rDB K T (cmpM op)) := by
  cases op with
  | Eq => exact op_eqM hK hu
  | NotEq => exact op_neM hK hu
  | Lt => exact op_cmpI op_lt
  | LtE => exact op_cmpI op_le
  | Gt => exact op_cmpI op_gt
  | GtE => exact op_cmpI op_ge
  | Is => exact op_isM hK
  | IsNot => exact op_isNotM hK
  | In => exact op_inM hK hu
  | NotIn => exact op_notInM hK hu
end
end Cr
set_option Elab.async false
set_option linter.all false
set_option maxRecDepth 100000
set_option maxHeartbeats 1000000
/-! Subscripts, slices, stores, fields, built-ins. -/
namespace Cr
open PySem PySem.Spec PyProof.Rows L2
section
variable {K : PySem.W.Frag} {T : Hp → Prop} {W : XK} {α : Al} {h : AH} {H : Hp}
/-! ### subscripts -/
theorem ixOf_eq (n : Nat) (i : Int) : ixOf n i = ixN n i := by
  unfold ixOf ixN
  by_cases h0 : 0 ≤ i
  · rw [if_pos h0, if_pos h0]
    by_cases h1 : i.toNat < n
    · rw [if_pos h1, if_pos (by omega)]
    · rw [if_neg h1, if_neg (by omega)]
  · rw [if_neg h0, if_neg h0]
    by_cases h1 : (-i).toNat ≤ n
    · rw [if_pos h1, if_pos (by omega)]
      congr 1
      omega
    · rw [if_neg h1, if_neg (by omega)]
theorem atL_cases {l : List D} {vs : List V} (r : RDs α H l vs) (i : Int) (h : AH) : (∃ d v, atL l i h = .ok d h ∧ atI vs i = some v ∧ RD α H d v) ∨ atL l i h = .stuck := by
  unfold atL
  rw [ixOf_eq]
  cases e : ixN l.length i with
  | none => exact .inr rfl
  | some k =>
    cases e2 : l[k]? with
    | none => exact .inr (by simp only [e2]; rfl)
    | some d =>
      obtain ⟨v, e3, r3⟩ := r.get e2
      refine .inl ⟨d, v, by simp only [e2]; rfl, ?_, r3⟩
      unfold atI
      rw [← r.length, e]
      exact e3
/-- a subscript of a built-in type's thing -/
theorem tail_of {prog : Program} {w : World} {A : Around} {E : Value → Shared → Prop} {s : Shared} {value slice : Expr} {o i : Value} {T id : String} {Q : Value → Shared → Prop} (hT : s.TypeIs o T)
    (hl : typeLookup (.type T) "__getitem__" = pure (some (.builtin id))) (h : wpAny (model prog w) A (getItem o i) Q E s) (hs : subscripted slice false o i = operate [o, i] (getItem o i)) :
    wpAny (model prog w) A (subscriptTail value slice o i) Q E s := by
  have fin : wpAny (model prog w) A (subscripted slice false o i) (fun r s₃ => wpAny (model prog w) A (letTemporaryGo value o r >>= fun _ => Pure.pure r) Q E s₃) E s := by
    rw [hs]
    exact wpAny_operating (thn h fun r s₃ h₃ => wpAny_bind (wpAny_letTemporaryGo (wpAny_pure h₃)))
  unfold subscriptTail
  refine wpAny_bind ?_
  rw [getitemInPython_of_ne hT.not_modules]
  refine wpAny_bind (wpAny_specialOf hT hl ?_)
  first
    | exact wpAny_pure (wpAny_bind fin)
    | exact wpAny_bind fin
variable {X : Cx}
theorem ix_M (hK : X.K = K) (hu : X.A.units + 70 < cLine) : IxR X (rD2 K T idxM) := by
  subst hK
  intro value slice pins s σ₀ H x y v u Q I rx ry ⟨α, h, b, c, W, S, rb, rc, o⟩ hs
  have lst : ∀ {l : List D} {vs : List V} {a : Addr} {i : Int}, RDs α H l vs → SqL X.K H a vs → x = .ref a → y = .int i → Out X.K T W α H (atL l i h) Q → wpAny (model X.prog X.w) X.A (subscriptTail value slice v u) (EP X pins σ₀ Q) X.xe s := fun {l vs a i} rs ea ex ey o => by
    subst ex ey
    rcases atL_cases rs i h with ⟨d, w, e1, e2, r⟩ | e1
    · rw [e1] at o
      exact ix_list value slice pins s σ₀ H _ _ v u Q I rx ry ⟨a, vs, i, w, rfl, rfl, ea, e2, o.pure S r⟩ hs
    · rw [e1] at o
      exact o.elim
  have no : Out X.K T W α H (.stuck : R D) Q → wpAny (model X.prog X.w) X.A (subscriptTail value slice v u) (EP X pins σ₀ Q) X.xe s := fun z => z.elim
  cases rb with
  | non => exact no o
  | bl b => exact no o
  | int i => exact no o
  | str x => exact no o
  | tup ea na la rs =>
    cases rc with
    | int i =>
      have o : Out X.K T W α H (atL _ i h) Q := o
      rcases atL_cases rs i h with ⟨d, w, e1, e2, r⟩ | e1
      · rw [e1] at o
        exact ix_tup value slice pins s σ₀ H _ _ v u Q I rx ry ⟨_, _, i, w, rfl, rfl, SqT.of ea, e2, o.pure S r⟩ hs
      · rw [e1] at o
        exact o.elim
    | _ => exact no o
  | lst ea na la rs =>
    cases rc with
    | int i => exact lst rs (SqL.of ea) rfl rfl o
    | _ => exact no o
  | @scr a l ea la =>
    cases rc with
    | int i =>
      refine lst (vs := l.map V.int) ?_ (S.kf ▸ ea.sq) rfl rfl o
      clear o la ea
      induction l with
      | nil => exact .nil
      | cons n r ih => exact .cons (.int n) ih
    | _ => exact no o
  | @ref n a en =>
    obtain ⟨cl, hc, cr⟩ := S.has en
    cases cl with
    | lst l =>
      obtain ⟨vs, e1, rs, _⟩ := cr
      have o : Out X.K T W α H ((match c with | .int i => atL l i | _ => M.stuck : M D) h) Q := by
        have e : idxM (.ref n) c h = (match c with | .int i => atL l i | _ => M.stuck : M D) h := by
          cases c <;> exact bind_ok (getC_ok hc)
        rw [← e]; exact o
      cases rc with
      | int i => exact lst rs (SqL.of e1) rfl rfl o
      | _ => exact no o
    | dct lk kvs =>
      have o : Out X.K T W α H ((match toKeys c with | some k => (match getK kvs k with | some d => pure d | none => M.stuck) | none => M.stuck : M D) h) Q := by
        have e : idxM (.ref n) c h = (match toKeys c with | some k => (match getK kvs k with | some d => pure d | none => M.stuck) | none => M.stuck : M D) h := by
          cases c <;> exact bind_ok (getC_ok hc)
        rw [← e]; exact o
      cases ek : toKeys c with
      | none => rw [ek] at o; exact o.elim
      | some ks =>
        rw [ek] at o
        obtain ⟨ov, g, q⟩ := dct_get S en hc ek rc
        rcases q with ⟨q1, q2⟩ | ⟨d, w, q1, q2, r⟩
        · simp only [q1] at o
          exact o.elim
        · simp only [q1] at o
          subst q2
          obtain rfl : v = Value.ref a := rx
          exact tail_of (dict_typeIs I g) PySem.F.slot_dict_getitem.lookup (d_getItem (by omega) I g ry fun w' s3 I3 rw' => ⟨w, H, I3, rw', OutG.pure o S r⟩) hs
    | ins cn l =>
      have e : idxM (.ref n) c h = .stuck := by
        cases c <;> exact bind_ok (getC_ok hc)
      rw [e] at o
      exact o.elim
/-! ### slices -/
theorem clamp_eq (n d : Nat) (i : Int) : clampI n i = HT.sIx n d (some i) := by
  unfold clampI
  show _ = if i < 0 then (i + (n : Int)).toNat else min i.toNat n
  by_cases h0 : 0 ≤ i
  · rw [if_pos h0, if_neg (by omega)]
  · rw [if_neg h0, if_pos (by omega)]
    omega
theorem cut_eq {β : Type} (l : List β) (lo hi : Option Int) : cut l lo hi = (l.drop (HT.sIx l.length 0 lo)).take (HT.sIx l.length l.length hi - HT.sIx l.length 0 lo) := by
  have e1 : loI l.length lo = HT.sIx l.length 0 lo := by
    cases lo with
    | none => rfl
    | some i => exact clamp_eq _ _ i
  have e2 : hiI l.length hi = HT.sIx l.length l.length hi := by
    cases hi with
    | none => rfl
    | some i => exact clamp_eq _ _ i
  unfold cut
  rw [e1, e2, List.drop_take]
theorem RDs.cut {l : List D} {vs : List V} (r : RDs α H l vs) (lo hi : Option Int) : RDs α H (cut l lo hi) (cutV vs lo hi) := by
  rw [cut_eq]
  unfold cutV
  rw [← r.length]
  exact (r.drop _).take _
theorem cut_length {β : Type} (l : List β) (lo hi : Option Int) : (Cr.cut l lo hi).length ≤ l.length := by
  rw [cut_eq, List.length_take, List.length_drop]
  omega
theorem sl_M (TO : TabOk T) (hK : X.K = K) {mk : Bool} : SlR X (fun x lo hi H Q => ∃ α h b W, Sim K T α h H ∧ RD α H b x ∧ Out K T W α H (sliceM mk b lo hi h) Q) := by
  subst hK
  intro pins s σ₀ H x v vl vu lo hi sl Q I rx hs pl pu ⟨α, h, b, W, S, rb, o⟩
  cases rb with
  | tup ea na la rs =>
    rename_i a l vs
    have o : Out X.K T W α H (.ok (.tup (Cr.cut l lo hi)) h) Q := o
    refine sl_tupA pins s σ₀ H _ v vl vu lo hi sl Q I rx hs pl pu ⟨a, vs, rfl, SqT.of ea, fun hw => ?_, fun _ p hp => ?_⟩
    · have e : Cr.cut l lo hi = l := by
        rw [cut_eq, rs.length, hw.1, hw.2, ← rs.length, List.drop_zero, Nat.sub_zero, List.take_length]
      rw [e] at o
      exact o.pure S (.tup ea na la rs)
    · exact out_tup TO o S (rs.cut lo hi) (Nat.le_trans (cut_length _ _ _) la) p hp
  | lst ea na la rs =>
    have o : Out X.K T W α H (newL mk (Cr.cut _ lo hi) h) Q := o
    exact sl_list pins s σ₀ H _ v vl vu lo hi sl Q I rx hs pl pu ⟨_, _, rfl, SqL.of ea, fun p hp => out_newL TO o S (rs.cut lo hi) (Nat.le_trans (cut_length _ _ _) la) p hp⟩
  | @ref n a en =>
    obtain ⟨cl, hc, cr⟩ := S.has en
    cases cl with
    | lst l =>
      obtain ⟨vs, e1, rs, z⟩ := cr
      have e : sliceM mk (.ref n) lo hi h = newL mk (Cr.cut l lo hi) h := bind_ok (getC_ok hc)
      rw [e] at o
      exact sl_list pins s σ₀ H _ v vl vu lo hi sl Q I rx hs pl pu ⟨a, vs, rfl, SqL.of e1, fun p hp => out_newL TO o S (rs.cut lo hi) (Nat.le_trans (cut_length _ _ _) z) p hp⟩
    | dct lk kvs => exact (show False from by
        have e : sliceM mk (.ref n) lo hi h = .stuck := bind_ok (getC_ok hc)
        rw [e] at o
        exact o).elim
    | ins c l => exact (show False from by
        have e : sliceM mk (.ref n) lo hi h = .stuck := bind_ok (getC_ok hc)
        rw [e] at o
        exact o).elim
  | non => exact False.elim o
  | bl b => exact False.elim o
  | int i => exact False.elim o
  | str x => exact False.elim o
  | scr _ _ => exact False.elim o
/-! ### stores -/
theorem KVR.any {ks : List Key} : ∀ {l : List (List Key × D)} {r : List (List L2.Key × V)}, KVR α H l r → l.any (fun p => decide (p.1 = ks)) = r.any (fun p => decide (p.1 = ks))
  | _, _, .nil => rfl
  | _, _, .cons _ t => by simp [KVR.any t]
theorem KVR.put {ks : List Key} {d : D} {v : V} (rd : RD α H d v) {l : List (List Key × D)} {r : List (List L2.Key × V)} (k : KVR α H l r) : KVR α H (Cr.putK l ks d) (L2.putK r ks v) := by
  unfold Cr.putK L2.putK
  rw [k.any]
  by_cases hb : r.any (fun p => decide (p.1 = ks)) = true
  · rw [if_pos hb, if_pos hb]
    clear hb
    induction k with
    | nil => exact .nil
    | @cons q d' v' l r h t ih =>
      rw [List.map_cons, List.map_cons]
      by_cases e : q = ks
      · simp only [e, if_true]
        exact .cons rd ih
      · simp only [e, if_false]
        exact .cons h ih
  · rw [if_neg hb, if_neg hb]
    clear hb
    induction k with
    | nil => exact .cons rd .nil
    | cons h t ih => exact .cons h ih
theorem putK_length (l : List (List Key × D)) (ks : List Key) (d : D) : (Cr.putK l ks d).length ≤ l.length + 1 := by
  unfold Cr.putK
  split
  · simp
  · simp
abbrev RU (α : Al) (H : Hp) (a b : Unit) : Prop := True
/-- a store as a reading -/
def rSt (K : PySem.W.Frag) (T : Hp → Prop) : TSet := fun o i v H Q => ∃ α h b c d W, Sim K T α h H ∧ RD α H b o ∧ RD α H c i ∧ RD α H d v ∧ OutG RU K T W α H (storeM b c d h) (fun _ H' => Q H')
theorem out_set (TO : TabOk T) {n : Nat} {a : Addr} {c : Cell} {o : HO} {Q : Unit → Hp → Prop} (S : Sim K T α h H) (en : α.l[n]? = some a) (ou : OutG RU K T W α H (setC n c h) Q) (cr : CellR K α (upd H a o) a c) : Q () (upd H a o) :=
  ou α (upd H a o) () (S.wrote en) (S.write (TO := TO) en cr) trivial
theorem set_M (TO : TabOk T) (hK : X.K = K) (hu : X.A.units + 70 < cLine) : PSet X (rSt K T) := by
  subst hK
  intro pins s σ₀ H ob i v ov iv u Q I ro ri rv ⟨α, h, b, c, d, W, S, rb, rc, rd, o⟩
  cases rb with
  | @ref n a en =>
    obtain ⟨cl, hc, cr⟩ := S.has en
    cases cl with
    | lst l =>
      obtain ⟨vs, e1, rs, z⟩ := cr
      have e : storeM (.ref n) c d h = storeL n l d c h := bind_ok (getC_ok hc)
      rw [e] at o
      cases rc with
      | int j =>
        cases ek : ixOf l.length j with
        | none => simp only [storeL, ek] at o; exact o.elim
        | some k =>
          simp only [storeL, ek] at o
          refine set_list pins s σ₀ H _ _ v ov iv u Q I ro ri rv ⟨a, vs, j, k, rfl, rfl, e1, by rw [← rs.length, ← ixOf_eq]; exact ek, ?_⟩
          exact out_set TO S en o ⟨_, upd_same, (rs.mono (S.wrote en)).set (rd.mono (S.wrote en)) k, by simpa using z⟩
      | _ => exact False.elim o
    | dct lk kvs =>
      cases lk with
      | true => exact (show False from by
          have e : storeM (.ref n) c d h = .stuck := bind_ok (getC_ok hc)
          rw [e] at o
          exact o).elim
      | false =>
        have e : storeM (.ref n) c d h = (match toKeys c with | some k => if kvs.length < 1000 then setC n (.dct false (Cr.putK kvs k d)) else M.stuck | none => M.stuck : M Unit) h := bind_ok (getC_ok hc)
        rw [e] at o
        obtain ⟨r, e1, kr, z⟩ := cr
        cases ek : toKeys c with
        | none => simp only [ek] at o; exact o.elim
        | some ks =>
          simp only [ek] at o
          split at o
          · rename_i hl
            obtain ⟨b, rfl, eb⟩ := toKeys_ok ek rc
            obtain rfl : ov = Value.ref a := ro
            have m := List.mem_of_getElem? en
            have hz : r.length < sizeLine := by
              rw [← kr.length]
              exact Nat.lt_of_lt_of_le hl (by decide)
            refine d_setItem (by omega) I (DPut.t e1 eb hz) ri rv fun s4 I4 => ⟨_, I4, ?_⟩
            exact out_set TO S en o ⟨_, upd_same, (kr.mono (S.wrote en)).put (rd.mono (S.wrote en)), by have := putK_length kvs ks d; omega⟩
          · exact o.elim
    | ins cn l => exact (show False from by
        have e : storeM (.ref n) c d h = .stuck := bind_ok (getC_ok hc)
        rw [e] at o
        exact o).elim
  | _ => exact False.elim o
/-! ### fields -/
theorem FR.lookup {f : Str} : ∀ {l : List (Str × D)} {r : List (Str × V)}, FR α H l r → (l.lookup f = none ∧ r.lookup f = none) ∨ ∃ d v, l.lookup f = some d ∧ r.lookup f = some v ∧ RD α H d v
  | _, _, .nil => .inl ⟨rfl, rfl⟩
  | _, _, .cons (k := k) (d := d) (v := v) (l := l) (r := r) h t => by
    rw [List.lookup_cons, List.lookup_cons]
    cases e : f == k with
    | true => exact .inr ⟨d, v, rfl, rfl, h⟩
    | false => exact FR.lookup t
theorem FR.length : ∀ {l : List (Str × D)} {r : List (Str × V)}, FR α H l r → l.length = r.length
  | _, _, .nil => rfl
  | _, _, .cons _ t => by simp [FR.length t]
theorem FR.put {f : Str} {d : D} {v : V} (rd : RD α H d v) : ∀ {l : List (Str × D)} {r : List (Str × V)}, FR α H l r → FR α H (Cr.putF f d l) (L2.putF f v r)
  | _, _, .nil => .cons rd .nil
  | _, _, .cons (k := k) (d := d') (v := v') (l := l) (r := r) h t => by
    unfold Cr.putF L2.putF
    by_cases e : k = f
    · simp only [e, if_true]
      exact .cons rd t
    · simp only [e, if_false]
      exact .cons h (FR.put rd t)
theorem putF_length (f : Str) (d : D) : ∀ l : List (Str × D), (Cr.putF f d l).length ≤ l.length + 1
  | [] => Nat.le_refl _
  | p :: r => by
    unfold Cr.putF
    split
    · simp
    · have := putF_length f d r
      simp
      exact this
/-- what the class table says -/
def FlOk (K : PySem.W.Frag) (fl : List (Str × Str)) : Prop := ∀ c f, (c, f) ∈ fl → Cls K (He.ga K c) ∧ NoAttr K (He.ga K c) f
theorem fld_M {fl : List (Str × Str)} (hf : FlOk K fl) {b : D} {x : V} {f : Str} {Q : VK} (S : Sim K T α h H) (rb : RD α H b x) (o : Out K T W α H (fldM fl b f h) Q) :
    ∃ a C dx fs v, x = .ref a ∧ H a = some (.ins C dx fs) ∧ Cls K C ∧ NoAttr K C f ∧ fs.lookup f = some v ∧ Q v H := by
  cases rb with
  | @ref n a en =>
    obtain ⟨cl, hc, cr⟩ := S.has en
    cases cl with
    | ins c fs =>
      have e : fldM fl (.ref n) f h = (if (c, f) ∈ fl then ofOpt (fs.lookup f) else M.stuck : M D) h := bind_ok (getC_ok hc)
      rw [e] at o
      obtain ⟨dx, r, e1, fr, z⟩ := cr
      split at o
      · rename_i hm
        obtain ⟨h1, h2⟩ := hf c f hm
        rcases fr.lookup (f := f) with ⟨q1, q2⟩ | ⟨d, v, q1, q2, q3⟩
        · rw [q1] at o
          exact False.elim o
        · rw [q1] at o
          exact ⟨a, _, dx, r, v, rfl, e1, h1, h2, q2, OutG.pure o S q3⟩
      · exact False.elim o
    | lst l => exact (show False from by
        have e : fldM fl (.ref n) f h = .stuck := bind_ok (getC_ok hc)
        rw [e] at o
        exact o).elim
    | dct lk l => exact (show False from by
        have e : fldM fl (.ref n) f h = .stuck := bind_ok (getC_ok hc)
        rw [e] at o
        exact o).elim
  | _ => exact False.elim o
theorem setFld_M (TO : TabOk T) {fl : List (Str × Str)} (hf : FlOk K fl) {b d : D} {x v : V} {f : Str} {Q : Unit → Hp → Prop} (S : Sim K T α h H) (rb : RD α H b x) (rd : RD α H d v) (o : OutG RU K T W α H (setFldM fl b f d h) Q) :
    ∃ a C dx fs, x = .ref a ∧ H a = some (.ins C dx fs) ∧ Cls K C ∧ NoAttr K C f ∧ fs.length < 1000 ∧ Q () (upd H a (.ins C dx (L2.putF f v fs))) := by
  cases rb with
  | @ref n a en =>
    obtain ⟨cl, hc, cr⟩ := S.has en
    cases cl with
    | ins c fs =>
      have e : setFldM fl (.ref n) f d h = (if fs.length < 100 ∧ (c, f) ∈ fl then setC n (.ins c (Cr.putF f d fs)) else M.stuck : M Unit) h := bind_ok (getC_ok hc)
      rw [e] at o
      obtain ⟨dx, r, e1, fr, z⟩ := cr
      split at o
      · rename_i hm
        obtain ⟨h1, h2⟩ := hf c f hm.2
        have m := List.mem_of_getElem? en
        refine ⟨a, _, dx, r, rfl, e1, h1, h2, by rw [← fr.length]; omega, ?_⟩
        exact out_set TO S en o ⟨dx, _, upd_same, (fr.mono (S.wrote en)).put (rd.mono (S.wrote en)), by have := putF_length f d fs; omega⟩
      · exact False.elim o
    | lst l => exact (show False from by
        have e : setFldM fl (.ref n) f d h = .stuck := bind_ok (getC_ok hc)
        rw [e] at o
        exact o).elim
    | dct lk l => exact (show False from by
        have e : setFldM fl (.ref n) f d h = .stuck := bind_ok (getC_ok hc)
        rw [e] at o
        exact o).elim
  | _ => exact False.elim o
end
end Cr
set_option Elab.async false
set_option linter.all false
set_option maxRecDepth 100000
set_option maxHeartbeats 1000000
/-! Built-ins. -/
namespace Cr
open PySem PySem.Spec PyProof.Rows L2
section
variable {K : PySem.W.Frag} {T : Hp → Prop} {W : XK} {α : Al} {h : AH} {H : Hp}
def rBl (K : PySem.W.Frag) (T : Hp → Prop) (g : List D → M D) : List V → Hp → VK → Prop := fun xs H Q => ∃ α h ds W, Sim K T α h H ∧ RDs α H ds xs ∧ Out K T W α H (g ds h) Q
theorem maxF_spec : ∀ (l : List Int) (x : Int), maxF x l ∈ x :: l ∧ ∀ y ∈ x :: l, y ≤ maxF x l
  | [], x => ⟨by simp [maxF], fun y hy => by have : y = x := by simpa using hy
                                             rw [this]; exact Int.le_refl _⟩
  | z :: l, x => by
    have e : maxF x (z :: l) = maxF (if x < z then z else x) l := rfl
    rw [e]
    obtain ⟨h1, h2⟩ := maxF_spec l (if x < z then z else x)
    have h3 := h2 (if x < z then z else x) List.mem_cons_self
    refine ⟨?_, fun y hy => ?_⟩
    · rcases List.mem_cons.mp h1 with q | q
      · rw [q]
        by_cases hx : x < z
        · rw [if_pos hx]; simp
        · rw [if_neg hx]; simp
      · exact List.mem_cons_of_mem _ (List.mem_cons_of_mem _ q)
    · rcases List.mem_cons.mp hy with q | q
      · by_cases hx : x < z
        · rw [if_pos hx] at h3 ⊢; omega
        · rw [if_neg hx] at h3 ⊢; omega
      · rcases List.mem_cons.mp q with q | q
        · by_cases hx : x < z
          · rw [if_pos hx] at h3 ⊢; omega
          · rw [if_neg hx] at h3 ⊢; omega
        · exact h2 y (List.mem_cons_of_mem _ q)
theorem minF_spec : ∀ (l : List Int) (x : Int), minF x l ∈ x :: l ∧ ∀ y ∈ x :: l, minF x l ≤ y
  | [], x => ⟨by simp [minF], fun y hy => by have : y = x := by simpa using hy
                                             rw [this]; exact Int.le_refl _⟩
  | z :: l, x => by
    have e : minF x (z :: l) = minF (if z < x then z else x) l := rfl
    rw [e]
    obtain ⟨h1, h2⟩ := minF_spec l (if z < x then z else x)
    have h3 := h2 (if z < x then z else x) List.mem_cons_self
    refine ⟨?_, fun y hy => ?_⟩
    · rcases List.mem_cons.mp h1 with q | q
      · rw [q]
        by_cases hx : z < x
        · rw [if_pos hx]; simp
        · rw [if_neg hx]; simp
      · exact List.mem_cons_of_mem _ (List.mem_cons_of_mem _ q)
    · rcases List.mem_cons.mp hy with q | q
      · by_cases hx : z < x
        · rw [if_pos hx] at h3 ⊢; omega
        · rw [if_neg hx] at h3 ⊢; omega
      · rcases List.mem_cons.mp q with q | q
        · by_cases hx : z < x
          · rw [if_pos hx] at h3 ⊢; omega
          · rw [if_neg hx] at h3 ⊢; omega
        · exact h2 y (List.mem_cons_of_mem _ q)
/-! ### the items as intsD, as boolsD -/
theorem ints_rel : ∀ {l : List D} {vs : List V} {ns : List Int}, RDs α H l vs → intsD l = some ns → vs = ns.map V.int
  | _, _, ns, .nil, e => by
    simp [intsD] at e
    subst e
    rfl
  | _, _, ns, .cons (d := d) (l := l) r rs, e => by
    unfold intsD at e
    rw [List.mapM_cons] at e
    cases r with
    | int i =>
      cases e2 : intsD l with
      | none => unfold intsD at e2; rw [e2] at e; cases e
      | some ms =>
        have := ints_rel rs e2
        unfold intsD at e2
        rw [e2] at e
        cases e
        rw [this] <;> rfl
    | _ => cases e
theorem bools_rel : ∀ {l : List D} {vs : List V} {ns : List Bool}, RDs α H l vs → boolsD l = some ns → vs = ns.map V.bl
  | _, _, ns, .nil, e => by
    simp [boolsD] at e
    subst e
    rfl
  | _, _, ns, .cons (d := d) (l := l) r rs, e => by
    unfold boolsD at e
    rw [List.mapM_cons] at e
    cases r with
    | bl i =>
      cases e2 : boolsD l with
      | none => unfold boolsD at e2; rw [e2] at e; cases e
      | some ms =>
        have := bools_rel rs e2
        unfold boolsD at e2
        rw [e2] at e
        cases e
        rw [this] <;> rfl
    | _ => cases e
theorem intsM_cases (S : Sim K T α h H) {a : D} {x : V} (r : RD α H a x) {f : List Int → M D} {Q : VK} (o : Out K T W α H (intsM a f h) Q) : ∃ p ns, x = .ref p ∧ H p = some (.lst (ns.map V.int)) ∧ ns.length ≤ sizeLine ∧ Out K T W α H (f ns h) Q := by
  unfold intsM at o
  split at o
  · rename_i hl
    rcases items_any S r with ⟨l, vs, p, e1, rfl, r1, z, q⟩ | e1
    · rw [bind_ok e1] at o
      rcases q with ⟨_, q⟩ | ⟨z', _⟩
      · cases e2 : intsD l with
        | none => simp only [e2] at o; exact False.elim o
        | some ns =>
          simp only [e2] at o
          have ev := ints_rel r1 e2
          have hlen : ns.length = l.length := by rw [r1.length, ev, List.length_map]
          exact ⟨p, ns, rfl, by rw [← ev]; exact q, by rw [hlen]; exact z, o⟩
      · rw [hl] at z'; cases z'
    · rw [bind_stuck e1] at o
      exact False.elim o
  · exact False.elim o
theorem boolsM_cases (S : Sim K T α h H) {a : D} {x : V} (r : RD α H a x) {f : List Bool → Bool} {Q : VK} (o : Out K T W α H (boolsM a f h) Q) : ∃ p bs, x = .ref p ∧ H p = some (.lst (bs.map V.bl)) ∧ Q (.bl (f bs)) H := by
  unfold boolsM at o
  split at o
  · rename_i hl
    rcases items_any S r with ⟨l, vs, p, e1, rfl, r1, z, q⟩ | e1
    · rw [bind_ok e1] at o
      rcases q with ⟨_, q⟩ | ⟨z', _⟩
      · cases e2 : boolsD l with
        | none => simp only [e2] at o; exact False.elim o
        | some ns =>
          simp only [e2] at o
          exact ⟨p, ns, rfl, by rw [← bools_rel r1 e2]; exact q, OutG.pure o S (.bl _)⟩
      · rw [hl] at z'; cases z'
    · rw [bind_stuck e1] at o
      exact False.elim o
  · exact False.elim o
theorem rds_ints : ∀ ns : List Int, RDs α H (ns.map .int) (ns.map V.int)
  | [] => .nil
  | n :: r => .cons (.int n) (rds_ints r)
theorem insI_perm (x : Int) : ∀ l : List Int, (insI x l).Perm (x :: l)
  | [] => .refl _
  | y :: r => by
    unfold insI
    split
    · exact .refl _
    · exact (List.Perm.cons y (insI_perm x r)).trans (List.Perm.swap x y r)
theorem sortI_perm : ∀ l : List Int, (sortI l).Perm l
  | [] => .refl _
  | x :: r => (insI_perm x (sortI r)).trans (List.Perm.cons x (sortI_perm r))
theorem insI_sorted (x : Int) : ∀ l : List Int, l.Pairwise (· ≤ ·) → (insI x l).Pairwise (· ≤ ·)
  | [], _ => by simp [insI]
  | y :: r, hp => by
    obtain ⟨h1, h2⟩ := List.pairwise_cons.mp hp
    unfold insI
    split
    · rename_i hx
      refine List.pairwise_cons.mpr ⟨fun z hz => ?_, hp⟩
      rcases List.mem_cons.mp hz with q | q
      · rw [q]; exact hx
      · exact Int.le_trans hx (h1 z q)
    · rename_i hx
      refine List.pairwise_cons.mpr ⟨fun z hz => ?_, insI_sorted x r h2⟩
      rcases List.mem_cons.mp ((insI_perm x r).mem_iff.mp hz) with q | q
      · rw [q]; omega
      · exact h1 z q
theorem sortI_sorted : ∀ l : List Int, (sortI l).Pairwise (· ≤ ·)
  | [] => .nil
  | x :: r => insI_sorted x _ (sortI_sorted r)
theorem sorted_unique : ∀ {l k : List Int}, l.Perm k → l.Pairwise (· ≤ ·) → k.Pairwise (· ≤ ·) → l = k
  | [], k, p, _, _ => by rw [List.Perm.eq_nil p.symm]
  | x :: l, [], p, _, _ => by cases List.Perm.eq_nil p
  | x :: l, y :: k, p, h1, h2 => by
    obtain ⟨a1, a2⟩ := List.pairwise_cons.mp h1
    obtain ⟨b1, b2⟩ := List.pairwise_cons.mp h2
    have hxy : x = y := by
      have m1 : x ∈ y :: k := p.mem_iff.mp List.mem_cons_self
      have m2 : y ∈ x :: l := p.mem_iff.mpr List.mem_cons_self
      rcases List.mem_cons.mp m1 with q | q
      · exact q
      · rcases List.mem_cons.mp m2 with r | r
        · exact r.symm
        · exact Int.le_antisymm (a1 y r) (b1 x q)
    subst hxy
    rw [sorted_unique (List.Perm.cons_inv p) a2 b2]
variable {X : Cx}
theorem cb_all (hK : X.K = K) (hc : X.calm = true) : CallR X (.builtin "all") (rBl K T b_all) := by
  subst hK
  intro pins s σ₀ H xs us Q I r ⟨α, h, ds, W, S, rs, o⟩
  cases rs with
  | nil => exact False.elim o
  | cons r1 r2 =>
    cases r2 with
    | nil =>
      obtain ⟨p, bs, rfl, e, q⟩ := boolsM_cases S r1 o
      exact cr_all hc pins s σ₀ H _ us Q I r ⟨p, bs, rfl, SqL.of e, q⟩
    | cons _ _ => exact False.elim o
theorem cb_any (hK : X.K = K) (hc : X.calm = true) : CallR X (.builtin "any") (rBl K T b_any) := by
  subst hK
  intro pins s σ₀ H xs us Q I r ⟨α, h, ds, W, S, rs, o⟩
  cases rs with
  | nil => exact False.elim o
  | cons r1 r2 =>
    cases r2 with
    | nil =>
      obtain ⟨p, bs, rfl, e, q⟩ := boolsM_cases S r1 o
      exact cr_any hc pins s σ₀ H _ us Q I r ⟨p, bs, rfl, SqL.of e, q⟩
    | cons _ _ => exact False.elim o
theorem cb_sum (hK : X.K = K) (hc : X.calm = true) : CallR X (.builtin "sum") (rBl K T b_sum) := by
  subst hK
  intro pins s σ₀ H xs us Q I r ⟨α, h, ds, W, S, rs, o⟩
  cases rs with
  | nil => exact False.elim o
  | cons r1 r2 =>
    cases r2 with
    | nil =>
      obtain ⟨p, ns, rfl, e, _, q⟩ := intsM_cases S r1 o
      exact cr_sum hc pins s σ₀ H _ us Q I r ⟨p, ns, rfl, SqL.of e, OutG.pure q S (.int _)⟩
    | cons _ _ => exact False.elim o
theorem cb_sorted (TO : TabOk T) (hK : X.K = K) {mk : Bool} : CallR X (.builtin "sorted") (rBl K T (b_sorted mk)) := by
  subst hK
  intro pins s σ₀ H xs us Q I r ⟨α, h, ds, W, S, rs, o⟩
  cases rs with
  | nil => exact False.elim o
  | cons r1 r2 =>
    cases r2 with
    | nil =>
      obtain ⟨p, ns, rfl, e, z, q⟩ := intsM_cases S r1 o
      refine cr_sortedI pins s σ₀ H _ us Q I r ⟨p, ns, rfl, SqL.of e, fun ns' a hp hs ha => ?_⟩
      have e2 : ns' = sortI ns := sorted_unique (hp.trans (sortI_perm ns).symm) hs (sortI_sorted ns)
      subst e2
      exact out_newL TO q S (rds_ints _) (by rw [List.length_map, (sortI_perm ns).length_eq]; exact z) a ha
    | cons _ _ => exact False.elim o
theorem max_same {ns : List Int} {m : Int} (h1 : m ∈ ns) (h2 : ∀ y ∈ ns, y ≤ m) : m = maxL ns := by
  cases ns with
  | nil => cases h1
  | cons x r =>
    obtain ⟨q1, q2⟩ := maxF_spec r x
    exact Int.le_antisymm (q2 m h1) (h2 _ q1)
theorem min_same {ns : List Int} {m : Int} (h1 : m ∈ ns) (h2 : ∀ y ∈ ns, m ≤ y) : m = minL ns := by
  cases ns with
  | nil => cases h1
  | cons x r =>
    obtain ⟨q1, q2⟩ := minF_spec r x
    exact Int.le_antisymm (h2 _ q1) (q2 m h1)
theorem pos_of {ns : List Int} (h : ns.isEmpty = false) : 0 < ns.length := by
  cases ns with
  | nil => cases h
  | cons _ _ => simp
theorem cb_max (hK : X.K = K) (hc : X.calm = true) : CallR X (.builtin "max") (rBl K T b_max) := by
  subst hK
  intro pins s σ₀ H xs us Q I r ⟨α, h, ds, W, S, rs, o⟩
  cases rs with
  | nil => exact False.elim o
  | cons r1 r2 =>
    cases r2 with
    | nil =>
      obtain ⟨p, ns, rfl, e, z, q⟩ := intsM_cases S r1 o
      cases he : ns.isEmpty with
      | true => rw [he] at q; exact False.elim q
      | false =>
        rw [he] at q
        refine cr_max hc pins s σ₀ H _ us Q I r ⟨p, ns, rfl, SqL.of e, pos_of he, fun m m1 m2 => ?_⟩
        rw [max_same m1 m2]
        exact OutG.pure q S (.int _)
    | cons r2 r3 =>
      cases r3 with
      | nil =>
        cases r1 <;> first
          | exact False.elim o
          | (cases r2 <;> first
              | exact False.elim o
              | exact call_max2 hc pins s σ₀ H _ us Q I r ⟨_, _, rfl, OutG.pure o S (.int _)⟩)
      | cons _ _ => cases r1 <;> first | exact False.elim o | (cases r2 <;> exact False.elim o)
theorem cb_min (hK : X.K = K) (hc : X.calm = true) : CallR X (.builtin "min") (rBl K T b_min) := by
  subst hK
  intro pins s σ₀ H xs us Q I r ⟨α, h, ds, W, S, rs, o⟩
  cases rs with
  | nil => exact False.elim o
  | cons r1 r2 =>
    cases r2 with
    | nil =>
      obtain ⟨p, ns, rfl, e, z, q⟩ := intsM_cases S r1 o
      cases he : ns.isEmpty with
      | true => rw [he] at q; exact False.elim q
      | false =>
        rw [he] at q
        refine cr_min hc pins s σ₀ H _ us Q I r ⟨p, ns, rfl, SqL.of e, pos_of he, fun m m1 m2 => ?_⟩
        rw [min_same m1 m2]
        exact OutG.pure q S (.int _)
    | cons r2 r3 =>
      cases r3 with
      | nil =>
        cases r1 <;> first
          | exact False.elim o
          | (cases r2 <;> first
              | exact False.elim o
              | exact call_min2 hc pins s σ₀ H _ us Q I r ⟨_, _, rfl, OutG.pure o S (.int _)⟩)
      | cons _ _ => cases r1 <;> first | exact False.elim o | (cases r2 <;> exact False.elim o)
theorem cb_len (hK : X.K = K) : CallR X (.builtin "len") (rBl K T b_len) := by
  subst hK
  intro pins s σ₀ H xs us Q I r ⟨α, h, ds, W, S, rs, o⟩
  cases rs with
  | nil => exact False.elim o
  | cons r1 r2 =>
    cases r2 with
    | cons _ _ => exact False.elim o
    | nil =>
      have o : Out X.K T W α H (lenM _ h) Q := o
      cases r1 with
      | str x =>
        have o : Out X.K T W α H ((if x.length ≤ most then pure (.int x.length) else M.stuck : M D) h) Q := o
        split at o
        · rename_i hl
          exact call_len pins s σ₀ H _ us Q I r ⟨_, _, rfl, ⟨Nat.le_trans hl most_le, rfl⟩, OutG.pure o S (.int _)⟩
        · exact False.elim o
      | tup ea na la rs => exact call_len pins s σ₀ H _ us Q I r ⟨_, _, rfl, .inr ⟨_, SqT.of ea, rfl⟩, by rw [← rs.length]; exact OutG.pure o S (.int _)⟩
      | lst ea na la rs => exact call_len pins s σ₀ H _ us Q I r ⟨_, _, rfl, .inl ⟨_, SqL.of ea, rfl⟩, by rw [← rs.length]; exact OutG.pure o S (.int _)⟩
      | @scr a l ea la => exact call_len pins s σ₀ H _ us Q I r ⟨_, _, rfl, .inl ⟨l.map V.int, S.kf ▸ ea.sq, rfl⟩, by rw [List.length_map]; exact OutG.pure o S (.int _)⟩
      | @ref n a en =>
        obtain ⟨cl, hc, cr⟩ := S.has en
        cases cl with
        | lst l =>
          obtain ⟨vs, e1, rs, z⟩ := cr
          have e : lenM (.ref n) h = .ok (.int l.length) h := bind_ok (getC_ok hc)
          rw [e] at o
          exact call_len pins s σ₀ H _ us Q I r ⟨_, _, rfl, .inl ⟨_, SqL.of e1, rfl⟩, by rw [← rs.length]; exact OutG.pure o S (.int _)⟩
        | dct lk kvs =>
          have e : lenM (.ref n) h = .stuck := bind_ok (getC_ok hc)
          rw [e] at o
          exact False.elim o
        | ins c kvs =>
          have e : lenM (.ref n) h = .stuck := bind_ok (getC_ok hc)
          rw [e] at o
          exact False.elim o
      | non => exact False.elim o
      | bl b => exact False.elim o
      | int i => exact False.elim o
theorem cb_tuple (TO : TabOk T) (hK : X.K = K) : CallR X (.type "tuple") (rBl K T b_tuple) := by
  subst hK
  intro pins s σ₀ H xs us Q I r ⟨α, h, ds, W, S, rs, o⟩
  cases rs with
  | nil => exact False.elim o
  | @cons d v l vs r1 r2 =>
    cases r2 with
    | cons _ _ => exact False.elim o
    | nil =>
      have o : Out X.K T W α H ((do pure (.tup (← items d)) : M D) h) Q := o
      rcases items_any S r1 with ⟨l, vs, p, e1, rfl, r3, z, q⟩ | e1
      · rw [bind_ok e1] at o
        rcases q with ⟨_, q⟩ | ⟨z', q⟩
        · exact call_tuple_of pins s σ₀ H _ us Q I r ⟨p, vs, rfl, .inl ⟨SqL.of q, fun a ha => out_tup TO o S r3 z a ha⟩⟩
        · refine call_tuple_of pins s σ₀ H _ us Q I r ⟨p, vs, rfl, .inr ⟨SqT.of q, ?_⟩⟩
          cases r1 with
          | tup ea na la rs =>
            cases e1
            exact OutG.pure o S (.tup ea na la rs)
          | lst _ _ _ _ => cases z'
          | ref _ => cases z'
          | scr _ _ => cases e1
      · rw [bind_stuck e1] at o
        exact False.elim o
theorem cb_list (TO : TabOk T) (hK : X.K = K) {mk : Bool} : CallR X (.type "list") (rBl K T (b_list mk)) := by
  subst hK
  intro pins s σ₀ H xs us Q I r ⟨α, h, ds, W, S, rs, o⟩
  cases rs with
  | nil => exact False.elim o
  | @cons d v l vs r1 r2 =>
    cases r2 with
    | cons _ _ => exact False.elim o
    | nil =>
      have o : Out X.K T W α H ((do newL mk (← items d) : M D) h) Q := o
      rcases items_any S r1 with ⟨l, vs, p, e1, rfl, r3, z, q⟩ | e1
      · rw [bind_ok e1] at o
        refine call_list_of pins s σ₀ H _ us Q I r ⟨p, vs, rfl, ?_, fun a ha => out_newL TO o S r3 z a ha⟩
        rcases q with ⟨_, q⟩ | ⟨_, q⟩
        · exact .inl (SqL.of q)
        · exact .inr (SqT.of q)
      · rw [bind_stuck e1] at o
        exact False.elim o
theorem cb_int (hK : X.K = K) : CallR X (.type "int") (rBl K T b_int) := by
  subst hK
  intro pins s σ₀ H xs us Q I r ⟨α, h, ds, W, S, rs, o⟩
  cases rs with
  | nil => exact False.elim o
  | cons r1 r2 =>
    cases r2 with
    | cons _ _ => cases r1 <;> exact False.elim o
    | nil =>
      cases r1 with
      | bl b => exact call_int1 pins s σ₀ H _ us Q I r (.inr ⟨b, rfl, OutG.pure o S (.int _)⟩)
      | int i => exact call_int1 pins s σ₀ H _ us Q I r (.inl ⟨i, rfl, OutG.pure o S (.int _)⟩)
      | _ => exact False.elim o
/-! ### isinstance -/
def Ty.name : Ty → String
  | .int => "int" | .bool => "bool" | .str => "str" | .tuple => "tuple" | .list => "list" | .dict => "dict"
theorem kit_none (t : Ty) : kitB "NoneType" t.name = some false := by cases t <;> decide +kernel
theorem kit_bool (t : Ty) : kitB "bool" t.name = some (t == .int || t == .bool) := by cases t <;> decide +kernel
theorem kit_int (t : Ty) : kitB "int" t.name = some (t == .int) := by cases t <;> decide +kernel
theorem kit_str (t : Ty) : kitB "str" t.name = some (t == .str) := by cases t <;> decide +kernel
theorem kit_tuple (t : Ty) : kitB "tuple" t.name = some (t == .tuple) := by cases t <;> decide +kernel
theorem kit_list (t : Ty) : kitB "list" t.name = some (t == .list) := by cases t <;> decide +kernel
theorem kit_dict (t : Ty) : kitB "dict" t.name = some (t == .dict) := by cases t <;> decide +kernel
theorem cb_isi (hK : X.K = K) {t : Ty} : CallR X (.builtin "isinstance") (fun xs H Q => ∃ x α h d W, xs = [x, .ty t.name] ∧ Sim K T α h H ∧ RD α H d x ∧ OutG RB K T W α H (isiM d t h) (fun b H' => Q (.bl b) H')) := by
  subst hK
  intro pins s σ₀ H xs us Q I r hx
  obtain ⟨x, α, h, d, W, ex, S, rd, o⟩ := hx
  subst ex
  have go : ∀ {n : String} {b : Bool}, TyX X.K H x (.type n) → kitB n t.name = some b → isiM d t h = .ok b h → wpAny (model X.prog X.w) X.A (call (.builtin "isinstance") us) (EP X pins σ₀ Q) X.xe s := fun {n b} ty kb e => by
    rw [e] at o
    exact call_isi pins s σ₀ H _ us Q I r ⟨x, _, _, _, b, rfl, .ty t.name, ty, kit_ty kb, OutG.pure (Rel := RB) (v := b) (Q := fun b H' => Q (.bl b) H') o S rfl⟩
  cases rd with
  | non => exact go (.base .non) (kit_none t) rfl
  | bl b => exact go (.base (.bl b)) (kit_bool t) rfl
  | int i => exact go (.base (.int i)) (kit_int t) rfl
  | str y => exact go (.base (.str y)) (kit_str t) rfl
  | tup ea na la rs => exact go (.base (.tup ea)) (kit_tuple t) rfl
  | lst ea na la rs => exact go (.base (.lst ea)) (kit_list t) rfl
  | scr ea la => exact False.elim o
  | @ref n a en =>
    obtain ⟨cl, hc, cr⟩ := S.has en
    cases cl with
    | lst l =>
      obtain ⟨vs, e1, rs, z⟩ := cr
      exact go (.base (.lst e1)) (kit_list t) (bind_ok (getC_ok hc))
    | dct lk kvs =>
      cases lk with
      | false =>
        obtain ⟨r1, e1, _⟩ := cr
        exact go (.base (.dT e1)) (kit_dict t) (bind_ok (getC_ok hc))
      | true =>
        have e : isiM (.ref n) t h = .stuck := bind_ok (getC_ok hc)
        rw [e] at o
        exact False.elim o
    | ins c kvs =>
      have e : isiM (.ref n) t h = .stuck := bind_ok (getC_ok hc)
      rw [e] at o
      exact False.elim o
end
end Cr
set_option Elab.async false
set_option linter.all false
set_option maxRecDepth 100000
set_option maxHeartbeats 1000000
/-! Expressions: one lemma a construct. -/
namespace Cr
open PySem PySem.Spec PyProof.Rows L2

/-! ### what the syntax is not -/
structure Syn (e : Expr) : Prop where
  star : ∀ rest env, starEach (e :: rest) env = (false, eval e env) :: starEach rest env
  ix : PlainIx e
  mark : ∀ op, behindInMarks op e = false
  fold : ∀ env x, foldedSetIterable e env x = pure x
  asg : ∀ o p env v, assign (.Subscript o e p) env v = (do
    let ov ← holding [v] (eval o env)
    let iv ← holding [v, ov] (eval e env)
    standAt p
    holding [v, ov, iv] (setItem ov iv v)
    release [v, ov, iv] [])
theorem syn_of {n : Nat} {C : CC} {e : Expr} {F : Cl} (h : compE n C e = some F) : Syn e := by
  cases n with
  | zero => cases h
  | succ n =>
    cases e <;> first
      | exact ⟨fun _ _ => rfl, fun _ _ => rfl, fun _ => rfl, fun _ _ => rfl, fun _ _ _ _ => rfl⟩
      | cases (show (none : Option Cl) = some F from h)
theorem syns_of {C : CC} : ∀ {n : Nat} {es : List Expr} {F : ClL}, compEs n C es = some F → ∀ env pos, (backTo pos (starEach es env)).any (·.1) = false
  | 0, _, _, h => by cases h
  | n + 1, [], _, h => fun env pos => rfl
  | n + 1, e :: r, F, h => fun env pos => by
    have h' : (do let A ← compE n C e; let B ← compEs n C r; some (fun o ρ => do let x ← A o ρ; let l ← B o ρ; pure (x :: l)) : Option ClL) = some F := h
    cases e1 : compE n C e with
    | none => rw [e1] at h'; cases h'
    | some A =>
      rw [e1] at h'
      cases e2 : compEs n C r with
      | none => rw [e2] at h'; cases h'
      | some B =>
        rw [(syn_of e1).star]
        exact syns_of e2 env pos

/-! ### readings -/
theorem _root_.L2.PE.sub {X : Cx} {e : Expr} {t u : TE} (h : PE X e t) (f : ∀ σ H Q, u σ H Q → t σ H Q) : PE X e u := ⟨fun pins s σ H Q I q => h.run pins s σ H Q I (f σ H Q q)⟩
theorem _root_.L2.PT.sub {X : Cx} {e : Expr} {t u : TT} (h : PT X e t) (f : ∀ σ H Q, u σ H Q → t σ H Q) : PT X e u := ⟨fun pins s σ H Q I q => h.run pins s σ H Q I (f σ H Q q)⟩
theorem _root_.L2.PW.sub {X : Cx} {e : Expr} {t u : TT} (h : PW X e t) (f : ∀ σ H Q, u σ H Q → t σ H Q) : PW X e u := ⟨fun wh pins s σ H Q I q => h.run wh pins s σ H Q I (f σ H Q q)⟩
theorem _root_.L2.PA.sub {X : Cx} {es : List Expr} {t u : TA} (h : PA X es t) (f : ∀ σ H Q, u σ H Q → t σ H Q) : PA X es u := ⟨fun pos pins s σ H Q I q => h.run pos pins s σ H Q I (f σ H Q q)⟩
theorem _root_.L2.PO.sub {X : Cx} {e : Option Expr} {t u : TO} (h : PO X e t) (f : ∀ σ H Q, u σ H Q → t σ H Q) : PO X e u := ⟨fun pins s σ H Q I q => h.run pins s σ H Q I (f σ H Q q)⟩
theorem _root_.L2.PE.never {X : Cx} {e : Expr} {u : TE} (f : ∀ σ H Q, ¬ u σ H Q) : PE X e u := ⟨fun pins s σ H Q I q => (f σ H Q q).elim⟩

theorem m_assoc {β γ δ : Type} (x : M β) (f : β → M γ) (g : γ → M δ) : (x >>= f) >>= g = x >>= fun a => f a >>= g := by
  funext h
  show M.bind (M.bind x f) g h = M.bind x (fun a => M.bind (f a) g) h
  unfold M.bind
  cases x h <;> rfl
instance : LawfulMonad M := LawfulMonad.mk' (m := M)
  (id_map := fun x => by
    funext h
    show M.bind x (fun a => M.pure (id a)) h = x h
    unfold M.bind
    cases x h <;> rfl)
  (pure_bind := fun _ _ => rfl)
  (bind_assoc := m_assoc)
section
variable {X : Cx} {K : PySem.W.Frag} {T : Hp → Prop} {E : XK} {a b c e : Expr} {es : List Expr} {pos : Pos} {A B F : Env → M D}
theorem out_pure {β γ : Type} {Rel : Al → Hp → β → γ → Prop} {α : Al} {H : Hp} {x : M β} {d : β} {h : AH} {v : γ} {Q : γ → Hp → Prop} (o : OutG Rel K T E α H (x h) Q) (e : x h = .ok d h) (s : Sim K T α h H) (r : Rel α H d v) : Q v H := by
  rw [e] at o
  exact o.pure s r
theorem se_const {v : V} {d : D} (h : PE X e (tC v)) (r : ∀ α H, RD α H d v) : PE X e (tF K T E fun _ => pure d) := h.sub fun σ H Q ⟨α, ρ, hh, er, S, o⟩ => OutG.pure o S (r α H)
theorem se_var {i : Nat} {x : Str} (h : PE X (.Name x pos) (tVar i)) : PE X (.Name x pos) (tF K T E fun ρ => getV ρ i) := h.sub fun σ H Q ⟨α, ρ, hh, er, S, o⟩ => by
  unfold getV at o
  dsimp only at o
  cases e : ρ[i]? with
  | none => rw [e] at o; exact False.elim o
  | some y =>
    cases y with
    | none => rw [e] at o; exact False.elim o
    | some d =>
      rw [e] at o
      obtain ⟨v, h1, h2⟩ := er.val i d e
      exact ⟨v, h1, OutG.pure o S h2⟩
theorem sub_op {g : D → D → M D} {σ : L2.St} {H : Hp} {Q : VK} (h : tF K T E (fun ρ => do let x ← A ρ; let y ← B ρ; g x y) σ H Q) : tOp (rD2 K T g) (tF K T E A) (tF K T E B) σ H Q := by
  obtain ⟨α, ρ, hh, er, S, o⟩ := h
  refine ⟨α, ρ, hh, er, S, (OutG.bind (Rel := RD) o).imp fun x H1 ⟨α1, h1, d1, ex1, S1, r1, o1⟩ => ?_⟩
  refine ⟨α1, ρ, h1, er.mono ex1, S1, (OutG.bind (Rel := RD) o1).imp fun y H2 ⟨α2, h2, d2, ex2, S2, r2, o2⟩ => ?_⟩
  exact ⟨α2, h2, d1, d2, E, S2, r1.mono ex2, r2, o2⟩
theorem se_bin (TO : TabOk T) (hK : X.K = K) {op : Operator} {mk : Bool} (ha : PE X a (tF K T E A)) (hb : PE X b (tF K T E B)) : PE X (.BinOp a op b pos) (tF K T E fun ρ => do binM op mk (← A ρ) (← B ρ)) :=
  (pe_op (op_binM TO hK) ha hb).sub fun _ _ _ h => sub_op h
theorem se_cmp (hK : X.K = K) (hu : X.A.units + 70 < cLine) {op : CmpOp} (ha : PE X a (tF K T E A)) (hb : PE X b (tF K T E B)) (sb : Syn b) : PE X (.Compare a [op] [b] pos) (tF K T E fun ρ => do pure (.bl (← cmpM op (← A ρ) (← B ρ)))) :=
  (pe_cmpR (op_cmpM (T := T) hK hu) ha hb (sb.mark op)).sub fun σ H Q h => sub_op (g := fun x y => do pure (.bl (← cmpM op x y))) h
/-- a bool's reading as a test -/
theorem tt_of {t : TE} {G : Env → M Bool} {σ : L2.St} {H : Hp} {Q : Bool → Hp → Prop} (f : ∀ Q, tF K T E (fun ρ => do pure (D.bl (← G ρ))) σ H Q → t σ H Q) (h : tFT K T E G σ H Q) : tTest t σ H Q := by
  obtain ⟨α, ρ, hh, er, S, o⟩ := h
  refine f _ ⟨α, ρ, hh, er, S, ?_⟩
  show Out K T E α H (M.bind (G ρ) (fun b => M.pure (D.bl b)) hh) _
  unfold M.bind
  cases e : G ρ hh with
  | ok b h' =>
    rw [e] at o
    intro α' H' v ex S' r
    cases r
    exact ⟨b, rfl, o α' H' b ex S' rfl⟩
  | exc c h' => rw [e] at o; exact o
  | stuck => rw [e] at o; exact o
theorem st_cmp (hK : X.K = K) (hu : X.A.units + 70 < cLine) {op : CmpOp} (ha : PE X a (tF K T E A)) (hb : PE X b (tF K T E B)) (sb : Syn b) : PT X (.Compare a [op] [b] pos) (tFT K T E fun ρ => do cmpM op (← A ρ) (← B ρ)) :=
  (pt_cmpR (op_cmpM (T := T) hK hu) ha hb (sb.mark op)).sub fun σ H Q h => tt_of (fun Q' h' => sub_op (g := fun x y => do pure (.bl (← cmpM op x y))) (by simpa only [bind_assoc] using h')) h
/-- one thing, then what the rest asks -/
theorem one_then {β γ δ ε : Type} {Rel : Al → Hp → β → γ → Prop} {Rel' : Al → Hp → δ → ε → Prop} {G : Env → M β} {f : β → Env → M δ} {σ : L2.St} {H : Hp} {Q : ε → Hp → Prop} {R : γ → Hp → Prop}
    (h : tG Rel' K T E (fun ρ => G ρ >>= fun x => f x ρ) σ H Q) (k : ∀ v H1 α1 h1 d ρ, EnvR α1 H1 ρ σ → Sim K T α1 h1 H1 → Rel α1 H1 d v → OutG Rel' K T E α1 H1 (f d ρ h1) Q → R v H1) : tG Rel K T E G σ H R := by
  obtain ⟨α, ρ, hh, er, S, o⟩ := h
  exact ⟨α, ρ, hh, er, S, (OutG.bind (Rel := Rel) o).imp fun v H1 ⟨α1, h1, d, ex, S1, r, o1⟩ => k v H1 α1 h1 d ρ (er.mono ex) S1 r o1⟩
theorem se_neg (hK : X.K = K) (ha : PE X a (tF K T E A)) : PE X (.UnaryOp .USub a pos) (tF K T E fun ρ => do negM (← A ρ)) :=
  (pe_un un_neg ha).sub fun σ H Q h => one_then (f := fun x _ => negM x) h fun v H1 α1 h1 d ρ er S r o => by
    cases r <;> first
      | exact ⟨_, rfl, OutG.pure o S (.int _)⟩
      | exact False.elim o
theorem asBool_cases {α : Al} {H : Hp} {d : D} {v : V} {h : AH} (r : RD α H d v) : (∃ b, d = .bl b ∧ v = .bl b ∧ asBool d h = .ok b h) ∨ asBool d h = .stuck := by
  cases r <;> first
    | exact .inl ⟨_, rfl, rfl, rfl⟩
    | exact .inr rfl
theorem se_not (ha : PE X a (tF K T E A)) : PE X (.UnaryOp .Not a pos) (tF K T E fun ρ => do pure (.bl (!(← asBool (← A ρ))))) :=
  (pe_not ha).sub fun σ H Q h => one_then (f := fun x _ => do pure (D.bl (!(← asBool x)))) h fun v H1 α1 h1 d ρ er S r o => by
    rcases asBool_cases (h := h1) r with ⟨b, _, rfl, e⟩ | e
    · rw [bind_ok e] at o
      exact ⟨b, rfl, OutG.pure o S (.bl _)⟩
    · rw [bind_stuck e] at o
      exact False.elim o
/-- a bool as a value, as a test -/
theorem st_val (ha : PE X e (tF K T E A)) (he : ∀ whole, isTrue e X.env whole = (do let v ← whole; standAt e.pos; holding [v] (truthy v))) : PT X e (tFT K T E fun ρ => do asBool (← A ρ)) :=
  (pt_val ha he).sub fun σ H Q h => one_then (f := fun x _ => asBool x) h fun v H1 α1 h1 d ρ er S r o => by
    rcases asBool_cases (h := h1) r with ⟨b, _, rfl, e⟩ | e
    · rw [e] at o
      exact ⟨b, rfl, OutG.pure (Rel := RB) o S rfl⟩
    · rw [e] at o
      exact False.elim o
variable {GA GB : Env → M Bool}
theorem st_not (ha : PT X a (tFT K T E GA)) : PT X (.UnaryOp .Not a pos) (tFT K T E fun ρ => do pure (!(← GA ρ))) :=
  (pt_not ha).sub fun σ H Q h => one_then (f := fun x _ => pure (!x)) h fun v H1 α1 h1 d ρ er S r o => by
    subst r
    exact OutG.pure (Rel := RB) o S rfl
theorem sw_one {op : BoolOp} (ha : PT X a (tFT K T E GA)) : PW X (.BoolOp op [a] pos) (tFT K T E GA) := by
  cases op
  · exact pw_and1 ha
  · exact pw_or1 ha
theorem sw_and {r : List Expr} (ha : PT X a (tFT K T E GA)) (hb : PW X (.BoolOp .And (b :: r) pos) (tFT K T E GB)) : PW X (.BoolOp .And (a :: b :: r) pos) (tFT K T E fun ρ => do if ← GA ρ then GB ρ else pure false) :=
  (pw_and ha hb).sub fun σ H Q h => one_then (f := fun x ρ => if x then GB ρ else pure false) h fun v H1 α1 h1 d ρ er S rr o => by
    subst rr
    cases d with
    | true => exact ⟨α1, ρ, h1, er, S, o⟩
    | false => exact OutG.pure (Rel := RB) o S rfl
theorem sw_or {r : List Expr} (ha : PT X a (tFT K T E GA)) (hb : PW X (.BoolOp .Or (b :: r) pos) (tFT K T E GB)) : PW X (.BoolOp .Or (a :: b :: r) pos) (tFT K T E fun ρ => do if ← GA ρ then pure true else GB ρ) :=
  (pw_or ha hb).sub fun σ H Q h => one_then (f := fun x ρ => if x then pure true else GB ρ) h fun v H1 α1 h1 d ρ er S rr o => by
    subst rr
    cases d with
    | true => exact OutG.pure (Rel := RB) o S rfl
    | false => exact ⟨α1, ρ, h1, er, S, o⟩
/-- as values -/
abbrev tFB (K : PySem.W.Frag) (T : Hp → Prop) (E : XK) (G : Env → M Bool) : TE := tF K T E fun ρ => do pure (D.bl (← G ρ))
theorem sb_one {op : BoolOp} (ha : PE X a (tF K T E A)) : PE X (.BoolOp op [a] pos) (tFB K T E fun ρ => do asBool (← A ρ)) :=
  (pe_one ha).sub fun σ H Q h => by
    have h' : tF K T E (fun ρ => A ρ >>= fun x => do pure (D.bl (← asBool x))) σ H Q := by simpa only [tFB, bind_assoc] using h
    refine one_then (f := fun x _ => do pure (D.bl (← asBool x))) h' fun v H1 α1 h1 d ρ er S r o => ?_
    rcases asBool_cases (h := h1) r with ⟨b, _, rfl, e⟩ | e
    · rw [bind_ok e] at o
      exact OutG.pure o S (.bl _)
    · rw [bind_stuck e] at o
      exact False.elim o
theorem sb_and {r : List Expr} (ha : PE X a (tF K T E A)) (hb : PE X (.BoolOp .And (b :: r) pos) (tFB K T E GB)) : PE X (.BoolOp .And (a :: b :: r) pos) (tFB K T E fun ρ => do if ← asBool (← A ρ) then GB ρ else pure false) :=
  (pe_and ha hb).sub fun σ H Q h => by
    have h' : tF K T E (fun ρ => A ρ >>= fun x => asBool x >>= fun y => do pure (D.bl (← (if y then GB ρ else pure false)))) σ H Q := by simpa only [tFB, bind_assoc] using h
    refine one_then (f := fun x ρ => asBool x >>= fun y => do pure (D.bl (← (if y then GB ρ else pure false)))) h' fun v H1 α1 h1 d ρ er S r o => ?_
    rcases asBool_cases (h := h1) r with ⟨k, _, rfl, e⟩ | e
    · rw [bind_ok e] at o
      refine ⟨k, rfl, ?_⟩
      cases k with
      | true => exact ⟨α1, ρ, h1, er, S, o⟩
      | false => exact OutG.pure o S (.bl _)
    · rw [bind_stuck e] at o
      exact False.elim o
theorem sb_or {r : List Expr} (ha : PE X a (tF K T E A)) (hb : PE X (.BoolOp .Or (b :: r) pos) (tFB K T E GB)) : PE X (.BoolOp .Or (a :: b :: r) pos) (tFB K T E fun ρ => do if ← asBool (← A ρ) then pure true else GB ρ) :=
  (pe_or ha hb).sub fun σ H Q h => by
    have h' : tF K T E (fun ρ => A ρ >>= fun x => asBool x >>= fun y => do pure (D.bl (← (if y then pure true else GB ρ)))) σ H Q := by simpa only [tFB, bind_assoc] using h
    refine one_then (f := fun x ρ => asBool x >>= fun y => do pure (D.bl (← (if y then pure true else GB ρ)))) h' fun v H1 α1 h1 d ρ er S r o => ?_
    rcases asBool_cases (h := h1) r with ⟨k, _, rfl, e⟩ | e
    · rw [bind_ok e] at o
      refine ⟨k, rfl, ?_⟩
      cases k with
      | true => exact OutG.pure o S (.bl _)
      | false => exact ⟨α1, ρ, h1, er, S, o⟩
    · rw [bind_stuck e] at o
      exact False.elim o
theorem se_if (hc : PT X c (tFT K T E GA)) (ha : PE X a (tF K T E A)) (hb : PE X b (tF K T E B)) : PE X (.IfExp c a b pos) (tF K T E fun ρ => do if ← GA ρ then A ρ else B ρ) :=
  (pe_ifExp hc ha hb).sub fun σ H Q h => one_then (f := fun x ρ => if x then A ρ else B ρ) h fun v H1 α1 h1 d ρ er S rr o => by
    subst rr
    cases d with
    | true => exact ⟨α1, ρ, h1, er, S, o⟩
    | false => exact ⟨α1, ρ, h1, er, S, o⟩
theorem sub_chain {op op' : CmpOp} {σ : L2.St} {H : Hp} {Q : VK} (h : tF K T E (fun ρ => do let x ← A ρ; let y ← B ρ; let k ← cmpM op x y; if k then pure (.bl (← cmpM op' y (← F ρ))) else pure (.bl false)) σ H Q) :
    tChain (rDB K T (cmpM op)) (rDB K T (cmpM op')) (tF K T E A) (tF K T E B) (tF K T E F) σ H Q := by
  refine one_then (f := fun x ρ => do let y ← B ρ; let k ← cmpM op x y; if k then pure (D.bl (← cmpM op' y (← F ρ))) else pure (D.bl false)) h fun v H1 α1 h1 d ρ er S r o => ?_
  refine ⟨α1, ρ, h1, er, S, (OutG.bind (Rel := RD) o).imp fun y H2 ⟨α2, h2, d2, ex2, S2, r2, o2⟩ => ?_⟩
  refine ⟨α2, h2, d, d2, E, S2, r.mono ex2, r2, ?_⟩
  show Out K T E α2 H2 (M.bind (cmpM op d d2) (fun b => M.pure (D.bl b)) h2) _
  unfold M.bind
  have o2 : Out K T E α2 H2 (M.bind (cmpM op d d2) _ h2) Q := o2
  unfold M.bind at o2
  cases e : cmpM op d d2 h2 with
  | exc c h' => rw [e] at o2; exact o2
  | stuck => rw [e] at o2; exact o2
  | ok k h3 =>
    rw [e] at o2
    intro α3 H3 v3 ex3 S3 r3
    cases r3
    refine ⟨k, rfl, ?_⟩
    have o3 := OutG.ext o2 ex3
    cases k with
    | false => exact OutG.pure o3 S3 (.bl _)
    | true =>
      have o3 : Out K T E α3 H3 ((F ρ >>= fun z => do pure (D.bl (← cmpM op' d2 z))) h3) Q := o3
      refine ⟨α3, ρ, h3, (er.mono ex2).mono ex3, S3, (OutG.bind (Rel := RD) o3).imp fun z H4 ⟨α4, h4, d4, ex4, S4, r4, o4⟩ => ?_⟩
      exact ⟨α4, h4, d2, d4, E, S4, (r2.mono ex3).mono ex4, r4, o4⟩
theorem lastMarks_of {op op' : CmpOp} (sc : Syn c) : lastMarks [op, op'] [b, c] = false := sc.mark op'
theorem se_chain (hK : X.K = K) (hu : X.A.units + 70 < cLine) {op op' : CmpOp} (ha : PE X a (tF K T E A)) (hb : PE X b (tF K T E B)) (hc : PE X c (tF K T E F)) (sc : Syn c) :
    PE X (.Compare a [op, op'] [b, c] pos) (tF K T E (fun ρ => do let x ← A ρ; let y ← B ρ; let k ← cmpM op x y; if k then pure (.bl (← cmpM op' y (← F ρ))) else pure (.bl false))) :=
  (pe_chain (op_cmpM (T := T) hK hu) (op_cmpM (T := T) hK hu) ha hb hc (lastMarks_of sc)).sub fun σ H Q h => sub_chain h
theorem if_bl {β γ : Type} (k : Bool) (x y : M β) (f : β → M γ) : (if k then x else y) >>= f = if k then x >>= f else y >>= f := by
  cases k <;> rfl
theorem st_chain (hK : X.K = K) (hu : X.A.units + 70 < cLine) {op op' : CmpOp} (ha : PE X a (tF K T E A)) (hb : PE X b (tF K T E B)) (hc : PE X c (tF K T E F)) (sc : Syn c) :
    PT X (.Compare a [op, op'] [b, c] pos) (tFT K T E (fun ρ => do let x ← A ρ; let y ← B ρ; let k ← cmpM op x y; if k then cmpM op' y (← F ρ) else pure false)) :=
  (pt_chain (op_cmpM (T := T) hK hu) (op_cmpM (T := T) hK hu) ha hb hc (lastMarks_of sc)).sub fun σ H Q h => tt_of (fun Q' h' => sub_chain (by simpa only [bind_assoc, if_bl, pure_bind] using h')) h
theorem se_idx (hK : X.K = K) (hu : X.A.units + 70 < cLine) (ha : PE X a (tF K T E A)) (hb : PE X b (tF K T E B)) (sb : Syn b) : PE X (.Subscript a b pos) (tF K T E fun ρ => do idxM (← A ρ) (← B ρ)) :=
  (pe_ix (ix_M (T := T) hK hu) ha hb sb.ix).sub fun σ H Q h => sub_op h
theorem so_none : PO X none (tG RO K T E fun _ => pure none) := po_none.sub fun σ H Q ⟨α, ρ, hh, er, S, o⟩ => OutG.pure (Rel := RO) o S rfl
theorem so_some (ha : PE X a (tF K T E A)) : PO X (some a) (tG RO K T E fun ρ => do partM (← A ρ)) :=
  (po_some ha).sub fun σ H Q h => one_then (f := fun x _ => partM x) h fun v H1 α1 h1 d ρ er S r o => by
    cases r <;> first
      | exact ⟨_, rfl, OutG.pure (Rel := RO) o S rfl⟩
      | exact False.elim o
theorem se_slice (TO : TabOk T) (hK : X.K = K) {mk : Bool} {lo hi : Option Expr} {L U : Env → M (Option Int)} {p2 : Pos} (ha : PE X a (tF K T E A)) (hl : PO X lo (tG RO K T E L)) (hh : PO X hi (tG RO K T E U)) :
    PE X (.Subscript a (.Slice lo hi none p2) pos) (tF K T E fun ρ => do sliceM mk (← A ρ) (← L ρ) (← U ρ)) :=
  (pe_slice (sl_M (T := T) (mk := mk) TO hK) ha hl hh).sub fun σ H Q h => one_then (f := fun x ρ => do sliceM mk x (← L ρ) (← U ρ)) h fun v H1 α1 h1 d ρ er S r o => by
    refine ⟨α1, ρ, h1, er, S, (OutG.bind (Rel := RO) o).imp fun l H2 ⟨α2, h2, d2, ex2, S2, r2, o2⟩ => ?_⟩
    refine ⟨α2, ρ, h2, er.mono ex2, S2, (OutG.bind (Rel := RO) o2).imp fun u H3 ⟨α3, h3, d3, ex3, S3, r3, o3⟩ => ?_⟩
    cases r2; cases r3
    exact ⟨α3, h3, d, E, S3, (r.mono ex2).mono ex3, o3⟩
/-! ### displays -/
theorem sa_nil : PA X [] (tFA K T E fun _ => pure []) := pa_nil.sub fun σ H Q ⟨α, ρ, hh, er, S, o⟩ => OutG.pure (Rel := RDs) o S .nil
theorem sa_cons {L : Env → M (List D)} (ha : PE X e (tF K T E A)) (hr : PA X es (tFA K T E L)) (se : Syn e) : PA X (e :: es) (tFA K T E fun ρ => do let x ← A ρ; let l ← L ρ; pure (x :: l)) :=
  (pa_cons ha hr (se.star es X.env)).sub fun σ H Q h => one_then (f := fun x ρ => do let l ← L ρ; pure (x :: l)) h fun v H1 α1 h1 d ρ er S r o =>
    ⟨α1, ρ, h1, er, S, (OutG.bind (Rel := RDs) o).imp fun vs H2 ⟨α2, h2, d2, ex2, S2, r2, o2⟩ => OutG.pure (Rel := RDs) o2 S2 (.cons (r.mono ex2) r2)⟩
theorem se_tuple (TO : TabOk T) {L : Env → M (List D)} {k : Nat} (hr : PA X es (tFA K T E L)) : PE X (.Tuple es k pos) (tF K T E fun ρ => do tupM (← L ρ)) :=
  (pe_tup hr).sub fun σ H Q h => one_then (f := fun x _ => tupM x) h fun vs H1 α1 h1 l ρ er S r o => by
    unfold tupM at o
    split at o
    · rename_i hl
      have hz := Nat.le_trans hl most_le
      exact ⟨by rw [← r.length]; exact hz, fun p hp => out_tup TO o S r hz p hp⟩
    · exact False.elim o
theorem se_list (TO : TabOk T) {L : Env → M (List D)} {mk : Bool} (hr : PA X es (tFA K T E L)) : PE X (.List es pos) (tF K T E fun ρ => do dispM mk (← L ρ)) :=
  (pe_lst hr).sub fun σ H Q h => one_then (f := fun x _ => dispM mk x) h fun vs H1 α1 h1 l ρ er S r o => by
    unfold dispM at o
    split at o
    · rename_i hl
      have hz := Nat.le_trans hl most_le
      exact ⟨by rw [← r.length]; exact hz, fun p hp => out_newL TO o S r hz p hp⟩
    · exact False.elim o
theorem se_dict0 (TO : TabOk T) : PE X (.Dict [] [] pos) (tF K T E fun _ => alloc (.dct false [])) :=
  pe_dnewT.sub fun σ H Q ⟨α, ρ, hh, er, S, o⟩ p hp => by
    have c : CellR K (α.snoc p) (upd H p (.dT [])) p (.dct false []) := ⟨[], upd_same, .nil, Nat.zero_le _⟩
    exact o (α.snoc p) _ (.ref p) (S.ext hp) (S.snoc (TO := TO) hp c) (.ref (by rw [← S.len]; simp [Al.snoc]))
end
end Cr
set_option Elab.async false
set_option linter.all false
set_option maxRecDepth 100000
set_option maxHeartbeats 1000000
/-! Calls. -/
namespace Cr
open PySem PySem.Spec PyProof.Rows L2

theorem base_of {a : Expr} {f : Str} {env : PySem.Env} {whole : Sem Value} (h : plainBase a = true) : attributeBase a f env whole = whole := by
  cases a <;> first
    | rfl
    | (rename_i fn as ks p
       cases fn <;> first
         | rfl
         | (cases as <;> first
             | rfl
             | (cases ks <;> first
                 | rfl
                 | cases h)))
theorem _root_.L2.PE.pick {X : Cx} {e : Expr} {u : TE} (f : ∀ σ H Q, u σ H Q → ∃ t, PE X e t ∧ t σ H Q) : PE X e u := ⟨fun pins s σ H Q I q => by
  obtain ⟨t, h, ht⟩ := f σ H Q q
  exact h.run pins s σ H Q I ht⟩

/-- a def's promise, from its denotation -/
def spD (K : PySem.W.Frag) (T : Hp → Prop) (g : List D → M D) : Sp := fun vs H Q E => ∃ α h ds, Sim K T α h H ∧ RDs α H ds vs ∧ Out K T E α H (g ds h) Q

/-- the facts of a program's top -/
structure Fx (K : PySem.W.Frag) (mg : Str → Option Value) (T : Hp → Prop) (Pg : Prog) : Prop where
  con : ∀ x d, Pg.gk x = .con d → ∃ u v, mg x = some u ∧ RelV v u ∧ ∀ α H, RD α H d v
  blt : ∀ x, Pg.gk x = .blt → mg x = none
  dfn : ∀ x, Pg.gk x = .dfn → ∃ d, Pg.find (x, none) = some d
  cls : ∀ x, Pg.gk x = .cls → mg x = some (.ref (He.ga K x)) ∧ Mk K (He.ga K x) (He.ma K (He.ga K x) "__init__") ∧ ∃ d, Pg.find (x, some "__init__") = some d
  exc : ∀ x, Pg.gk x = .exc → mg x = some (.ref (He.ga K x)) ∧ PySem.W.excIn K (He.ga K x) He.veBase "ValueError.__new__" = true ∧ PySem.W.keepIn K (.ref (He.ga K x)) = true ∧
    PySem.W.subIn K (.ref (He.ga K x)) (.type "BaseException") = some true ∧ PySem.W.typeIn K (.ref (He.ga K x)) = some (.type "type")
  fl : FlOk K Pg.fl
  ms : ∀ c m, (c, m) ∈ Pg.ms → m ≠ "__init__" ∧ ∃ d, Pg.find (c, some m) = some d
  TO : TabOk T
/-- where a def stands -/
def AtKey (K : PySem.W.Frag) (mg : Str → Option Value) : Str × Option Str → Addr → Prop
  | (x, none), f => mg x = some (.ref f) ∧ PySem.W.keepIn K (.ref f) = true
  | (c, some m), f => f = He.ma K (He.ga K c) m ∧ (m ≠ "__init__" → Cls K (He.ga K c) ∧ Meth K (He.ga K c) m f)
/-- the defs keep their promises, by k calls one in another -/
def Clz (P : Program) (w : World) (K : PySem.W.Frag) (mg : Str → Option Value) (base : Heap) (T : Hp → Prop) (Pg : Prog) (k : Nat) : Prop :=
  ∀ key d, Pg.find key = some d → ∃ f fd, FnOk P w K mg base (L2N.CX P w) (5 * k) f fd d.ps (spD K T (run Pg k key)) ∧ Binds K fd d.ps [] ∧ AtKey K mg key f
/-- a context of the text -/
structure Good (P : Program) (w : World) (K : PySem.W.Frag) (mg : Str → Option Value) (base : Heap) (k : Nat) (C : CC) (E : XK) (X : Cx) : Prop where
  pr : X.prog = P
  wo : X.w = w
  fr : X.K = K
  gl : X.mg = mg
  bs : X.base = base
  na : X.N = C.N
  sc : X.env.scope = C.sc
  nd : X.N.Nodup
  calm : X.calm = true
  room : Room (if C.lam then 5 * k + 4 else 5 * k + 2) X.A
  tk : L2N.Takes X (fun cls d _ H => E cls d H)
  po : PassesOwn (model X.prog X.w) X.A X.env X.xe
  fnl : ∀ x, locB C.raw x = true → locB C.sc x = true ∧ (X.fn x = true ∨ X.env.scope.names.lookup x = some .local)
  kd : C.sc.kind = .function
theorem Good.units {P : Program} {w : World} {K : PySem.W.Frag} {mg : Str → Option Value} {base : Heap} {k : Nat} {C : CC} {E : XK} {X : Cx} (G : Good P w K mg base k C E X) : X.A.units + 70 < cLine := by
  have := G.room.un
  split at this <;> omega
theorem Good.rm {P : Program} {w : World} {K : PySem.W.Frag} {mg : Str → Option Value} {base : Heap} {k : Nat} {C : CC} {E : XK} {X : Cx} (G : Good P w K mg base k C E X) : Room (5 * k + 2) X.A := G.room.mono (by split <;> omega)

section
variable {P : Program} {w : World} {K : PySem.W.Frag} {mg : Str → Option Value} {base : Heap} {T : Hp → Prop} {Pg : Prog} {k : Nat} {C : CC} {E : XK} {X : Cx}
theorem Good.vis (G : Good P w K mg base k C E X) {x : Str} {i : Nat} (hv : visB C.sc x = true) (hs : C.slot x = some i) : X.N[i]? = some x ∧ Vis X.env.scope x ∧ (x == ("__debug__" : Str)) = false ∧ (x == ("__classdict__" : Str)) = false := by
  unfold CC.slot at hs
  split at hs
  · rename_i hn
    simp only [nameOk, Bool.and_eq_true, Bool.not_eq_true'] at hn
    refine ⟨?_, ?_, hn.1.1, hn.1.2⟩
    · rw [G.na]
      obtain ⟨h1, h2, _⟩ := List.findIdx?_eq_some_iff_getElem.mp hs
      rw [List.getElem?_eq_getElem h1]
      exact congrArg some (of_decide_eq_true h2)
    · rw [G.sc]
      unfold visB at hv
      unfold Vis
      split at hv
      · rename_i h; exact .inl h
      · rename_i h; exact .inr (.inl h)
      · rename_i h; exact .inr (.inr h)
      · cases hv
  · cases hs
theorem Good.loc (G : Good P w K mg base k C E X) {x : Str} {i : Nat} (hv0 : locB C.raw x = true) (hs : C.slot x = some i) : X.N[i]? = some x ∧ L2.Loc X.env.scope x ∧ (X.fn x = true ∨ X.env.scope.names.lookup x = some .local) := by
  obtain ⟨hv, hfn⟩ := G.fnl x hv0
  have hv' : visB C.sc x = true := by
    unfold locB at hv
    unfold visB
    split at hv
    · rename_i h; rw [h]
    · rename_i h; rw [h]
    · cases hv
  refine ⟨(G.vis hv' hs).1, ?_, hfn⟩
  rw [G.sc]
  unfold locB at hv
  unfold L2.Loc
  split at hv
  · rename_i h; exact .inl h
  · rename_i h; exact .inr h
  · cases hv
theorem Good.glo (G : Good P w K mg base k C E X) {x : Str} (h : isGlo C x = true) : Gl X x ∧ (x == ("__debug__" : Str)) = false ∧ x ≠ "__name__" := by
  unfold isGlo at h
  obtain ⟨h1, h2⟩ := Bool.and_eq_true_iff.mp h
  simp only [nameOk, Bool.and_eq_true, Bool.not_eq_true'] at h2
  refine ⟨?_, h2.1.1, ?_⟩
  · show X.env.scope.names.lookup x = _
    rw [G.sc]
    exact of_decide_eq_true h1
  · intro z
    rw [z] at h2
    exact absurd h2.2 (by decide)
variable {a e : Expr} {es : List Expr} {pos p apos : Pos} {A : Env → M D} {L : Env → M (List D)}
theorem se_attr (G : Good P w K mg base k C E X) (hf : FlOk K C.fl) {f : Str} (ha : PE X a (tF K T E A)) (hb : plainBase a = true) : PE X (.Attribute a f pos) (tF K T E fun ρ => do fldM C.fl (← A ρ) f) :=
  (pe_fld ha (base_of hb)).sub fun σ H Q h => one_then (f := fun x _ => fldM C.fl x f) h fun v H1 α1 h1 d ρ er S r o => by
    rw [G.fr]
    exact fld_M hf S r o
theorem run_len {key : Str × Option Str} {d : Def} (hd : Pg.find key = some d) {ds : List D} {h : AH} (hl : ds.length ≠ d.ps.length) : run Pg k key ds h = .stuck := by
  cases k with
  | zero => rfl
  | succ k =>
    unfold run
    simp only [hd]
    rw [if_neg hl]
    rfl
theorem call_sub {g : List D → M D} {σ : L2.St} {H : Hp} {Q : VK} (h : tF K T E (fun ρ => do g (← L ρ)) σ H Q) : tCall (spD K T g) [] E (tFA K T E L) σ H Q :=
  one_then (f := fun x _ => g x) h fun v H1 α1 h1 l ρ er S r o => by
    show spD K T g (v ++ []) H1 Q E
    rw [List.append_nil]
    exact ⟨α1, h1, l, S, r, o⟩
/-- f(..) -/
theorem se_def0 (G : Good P w K mg base k C E X) (Z : Clz P w K mg base T Pg k) {f : Str} {d : Def} (hd : Pg.find (f, none) = some d) (hg : isGlo C f = true) : PE X (.Call (.Name f p) [] [] pos) (tF K T E fun _ => do run Pg k (f, none) (← pure [])) := by
  obtain ⟨fa, fd, F, B, at1, at2⟩ := Z _ _ hd
  obtain ⟨g1, g2, g3⟩ := G.glo hg
  have rm := G.rm
  obtain ⟨pr, wo, fr, gl, bs, na, sc, nd, calm, room, tk, po, fnl, kd⟩ := G
  subst pr wo fr gl bs
  exact (pe_call0 F (rm.mono (by omega)) g1 at1 at2 B .nil (L2N.passes_call tk fun _ _ _ _ h => h) g2).sub fun σ H Q ⟨α, ρ, hh, er, S, o⟩ => ⟨α, hh, [], S, .nil, o⟩
theorem se_def (G : Good P w K mg base k C E X) (Z : Clz P w K mg base T Pg k) {f : Str} {d : Def} (hd : Pg.find (f, none) = some d) (hg : isGlo C f = true) (ha : PA X (e :: es) (tFA K T E L)) (s1 : Syn e)
    (s2 : ∀ env pos, (backTo pos (starEach es env)).any (·.1) = false) : PE X (.Call (.Name f p) (e :: es) [] pos) (tF K T E fun ρ => do run Pg k (f, none) (← L ρ)) := by
  obtain ⟨fa, fd, F, B, at1, at2⟩ := Z _ _ hd
  obtain ⟨g1, g2, g3⟩ := G.glo hg
  have rm := G.rm
  obtain ⟨pr, wo, fr, gl, bs, na, sc, nd, calm, room, tk, po, fnl, kd⟩ := G
  subst pr wo fr gl bs
  exact (pe_call F (rm.mono (by omega)) g1 at1 at2 B .nil (L2N.passes_call tk fun _ _ _ _ h => h) ha g2 (s1.star es X.env) (s2 X.env pos)).sub fun σ H Q h => call_sub h
/-- a class called: the new thing, then __init__ -/
theorem make_sub (TO : TabOk T) {o : Ora} {f : Str} {α : Al} {h : AH} {H : Hp} {l : List D} {vs : List V} {Q : VK} (S : Sim K T α h H) (r : RDs α H l vs) (ou : Out K T E α H (makeM o f l h) Q) (x dx : Addr) (hx : H x = none) (hdx : H dx = none) (hne : dx ≠ x) :
    spD K T (o (f, some "__init__")) (.ref x :: vs) (upd (upd H dx (.own x)) x (.ins (He.ga K f) dx [])) (fun v H2 => v = .non ∧ Q (.ref x) H2) E := by
  have S1 := S.upd (TO := TO) (o := .own x) hdx
  have hx1 : upd H dx (.own x) x = none := by rw [upd_ne (Ne.symm hne)]; exact hx
  have e1 : Ext α α H (upd H dx (.own x)) := S.fresh hdx
  have e2 : Ext α (α.snoc x) (upd H dx (.own x)) (upd (upd H dx (.own x)) x (.ins (He.ga K f) dx [])) := S1.ext hx1
  have c : CellR K (α.snoc x) (upd (upd H dx (.own x)) x (.ins (He.ga K f) dx [])) x (.ins f []) := ⟨dx, [], upd_same, .nil, Nat.zero_le _⟩
  have S2 := S1.snoc (TO := TO) hx1 c
  have rx : RD (α.snoc x) (upd (upd H dx (.own x)) x (.ins (He.ga K f) dx [])) (.ref h.length) (.ref x) := .ref (by rw [← S.len]; simp [Al.snoc])
  refine ⟨α.snoc x, h ++ [.ins f []], .ref h.length :: l, S2, .cons rx ((r.mono e1).mono e2), ?_⟩
  have ou : Out K T E α H ((do
      match ← o (f, some "__init__") (.ref h.length :: l) with
      | .non => pure (.ref h.length)
      | _ => M.stuck : M D) (h ++ [.ins f []])) Q := ou
  have o2 := OutG.ext ou (e1.trans e2)
  have o3 := OutG.bind (Rel := RD) o2
  refine o3.imp fun v H2 ⟨α2, h2, d2, ex2, S3, r2, o4⟩ => ?_
  cases r2 <;> first
    | exact ⟨rfl, OutG.pure o4 S3 (rx.mono ex2)⟩
    | exact False.elim o4
theorem se_cls0 (G : Good P w K mg base k C E X) (Z : Clz P w K mg base T Pg k) (Y : Fx K mg T Pg) {f : Str} (hf : Pg.gk f = .cls) (hg : isGlo C f = true) : PE X (.Call (.Name f p) [] [] pos) (tF K T E fun _ => do makeM (run Pg k) f (← pure [])) := by
  obtain ⟨c1, c2, d, hd⟩ := Y.cls f hf
  obtain ⟨fa, fd, F, B, at1, at2⟩ := Z _ _ hd
  obtain ⟨g1, g2, g3⟩ := G.glo hg
  have rm := G.rm
  obtain ⟨pr, wo, fr, gl, bs, na, sc, nd, calm, room, tk, po, fnl, kd⟩ := G
  subst pr wo fr gl bs
  subst at1
  exact (pe_make0 c2 F (rm.mono (by omega)) g1 c1 B .nil (L2N.passes_call tk fun _ _ _ _ h => h) g2).sub fun σ H Q ⟨α, ρ, hh, er, S, o⟩ x dx h1 h2 h3 => make_sub Y.TO S .nil o x dx h1 h2 h3
theorem se_cls (G : Good P w K mg base k C E X) (Z : Clz P w K mg base T Pg k) (Y : Fx K mg T Pg) {f : Str} (hf : Pg.gk f = .cls) (hg : isGlo C f = true) (ha : PA X (e :: es) (tFA K T E L)) (s1 : Syn e)
    (s2 : ∀ env pos, (backTo pos (starEach es env)).any (·.1) = false) : PE X (.Call (.Name f p) (e :: es) [] pos) (tF K T E fun ρ => do makeM (run Pg k) f (← L ρ)) := by
  obtain ⟨c1, c2, d, hd⟩ := Y.cls f hf
  obtain ⟨fa, fd, F, B, at1, at2⟩ := Z _ _ hd
  obtain ⟨g1, g2, g3⟩ := G.glo hg
  have rm := G.rm
  obtain ⟨pr, wo, fr, gl, bs, na, sc, nd, calm, room, tk, po, fnl, kd⟩ := G
  subst pr wo fr gl bs
  subst at1
  refine (pe_make c2 F (rm.mono (by omega)) g1 c1 B .nil (L2N.passes_call tk fun _ _ _ _ h => h) ha g2 (s1.star es X.env) (s2 X.env pos)).sub fun σ H Q h => ?_
  refine one_then (f := fun x _ => makeM (run Pg k) f x) h fun v H1 α1 h1 l ρ er S r o x dx h1 h2 h3 => ?_
  rw [List.append_nil]
  exact make_sub Y.TO S r o x dx h1 h2 h3
/-! ### built-ins -/
theorem se_blt (G : Good P w K mg base k C E X) {f : Str} {id : String} {g : List D → M D} (hm : mg f = none) (hg : isGlo C f = true) (hv : bootBuiltins f = some (.builtin id)) (hc : CallR X (.builtin id) (rBl K T g)) (ha : PA X (e :: es) (tFA K T E L)) (s1 : Syn e)
    (s2 : ∀ env pos, (backTo pos (starEach es env)).any (·.1) = false) : PE X (.Call (.Name f p) (e :: es) [] pos) (tF K T E fun ρ => do g (← L ρ)) := by
  obtain ⟨g1, g2, g3⟩ := G.glo hg
  refine (pe_callB hc g1 (by rw [G.gl]; exact hm) hv ha g3 g2 (s1.star es X.env) (s2 X.env pos)).sub fun σ H Q h => ?_
  exact one_then (f := fun x _ => g x) h fun v H1 α1 h1 l ρ er S r o => ⟨α1, h1, l, E, S, r, o⟩
theorem se_ty (G : Good P w K mg base k C E X) {f : Str} {id : String} {g : List D → M D} (hm : mg f = none) (hg : isGlo C f = true) (hv : bootBuiltins f = some (.type id)) (hc : CallR X (.type id) (rBl K T g)) (ha : PA X (e :: es) (tFA K T E L)) (s1 : Syn e)
    (s2 : ∀ env pos, (backTo pos (starEach es env)).any (·.1) = false) : PE X (.Call (.Name f p) (e :: es) [] pos) (tF K T E fun ρ => do g (← L ρ)) := by
  obtain ⟨g1, g2, g3⟩ := G.glo hg
  refine (pe_callTy hc g1 (by rw [G.gl]; exact hm) hv ha g3 g2 (s1.star es X.env) (s2 X.env pos)).sub fun σ H Q h => ?_
  exact one_then (f := fun x _ => g x) h fun v H1 α1 h1 l ρ er S r o => ⟨α1, h1, l, E, S, r, o⟩
theorem se_bltM (G : Good P w K mg base k C E X) (TO : TabOk T) {f : Str} {mk : Bool} {g : List D → M D} (hb : bltM mk f = some g) (hm : mg f = none) (hg : isGlo C f = true) (ha : PA X (e :: es) (tFA K T E L)) (s1 : Syn e)
    (s2 : ∀ env pos, (backTo pos (starEach es env)).any (·.1) = false) : PE X (.Call (.Name f p) (e :: es) [] pos) (tF K T E fun ρ => do g (← L ρ)) := by
  unfold bltM at hb
  split at hb
  · rename_i h; subst h; cases hb; exact se_blt G hm hg boot_len (cb_len G.fr) ha s1 s2
  split at hb
  · rename_i h; subst h; cases hb; exact se_blt G hm hg boot_all (cb_all G.fr G.calm) ha s1 s2
  split at hb
  · rename_i h; subst h; cases hb; exact se_blt G hm hg boot_any (cb_any G.fr G.calm) ha s1 s2
  split at hb
  · rename_i h; subst h; cases hb; exact se_blt G hm hg boot_sum (cb_sum G.fr G.calm) ha s1 s2
  split at hb
  · rename_i h; subst h; cases hb; exact se_blt G hm hg boot_max (cb_max G.fr G.calm) ha s1 s2
  split at hb
  · rename_i h; subst h; cases hb; exact se_blt G hm hg boot_min (cb_min G.fr G.calm) ha s1 s2
  split at hb
  · rename_i h; subst h; cases hb; exact se_blt G hm hg boot_sorted (cb_sorted TO G.fr) ha s1 s2
  split at hb
  · rename_i h; subst h; cases hb; exact se_ty G hm hg boot_tuple (cb_tuple TO G.fr) ha s1 s2
  split at hb
  · rename_i h; subst h; cases hb; exact se_ty G hm hg boot_list (cb_list TO G.fr) ha s1 s2
  split at hb
  · rename_i h; subst h; cases hb; exact se_ty G hm hg boot_int (cb_int G.fr) ha s1 s2
  cases hb
theorem bltM_nil {f : Str} {mk : Bool} {g : List D → M D} (hb : bltM mk f = some g) (h : AH) : g [] h = .stuck := by
  unfold bltM at hb
  repeat (split at hb; (· cases hb; rfl))
  cases hb
theorem se_blt0 {f : Str} {mk : Bool} {g : List D → M D} (hb : bltM mk f = some g) : PE X (.Call (.Name f p) [] [] pos) (tF K T E fun _ => do g (← pure [])) :=
  PE.never fun σ H Q ⟨α, ρ, hh, er, S, o⟩ => by
    have o : Out K T E α H (g [] hh) Q := o
    rw [bltM_nil hb] at o
    exact o
end
end Cr
set_option Elab.async false
set_option linter.all false
set_option maxRecDepth 100000
set_option maxHeartbeats 1000000
/-! isinstance, default=, methods. -/
namespace Cr
open PySem PySem.Spec PyProof.Rows L2
section
variable {P : Program} {w : World} {K : PySem.W.Frag} {mg : Str → Option Value} {base : Heap} {T : Hp → Prop} {Pg : Prog} {k : Nat} {C : CC} {E : XK} {X : Cx}
variable {a b e : Expr} {es : List Expr} {pos p p2 apos : Pos} {A B : Env → M D} {L : Env → M (List D)}
theorem tyOf_boot {t : Str} {y : Ty} (h : tyOf t = some y) : bootBuiltins t = some (.type y.name) := by
  unfold tyOf at h
  split at h
  · rename_i e; subst e; cases h; exact boot_int
  split at h
  · rename_i e; subst e; cases h; exact boot_bool
  split at h
  · rename_i e; subst e; cases h; exact boot_str
  split at h
  · rename_i e; subst e; cases h; exact boot_tuple
  split at h
  · rename_i e; subst e; cases h; exact boot_list
  split at h
  · rename_i e; subst e; cases h; exact boot_dict
  cases h
theorem se_isi (G : Good P w K mg base k C E X) (Y : Fx K mg T Pg) (hC : C.gk = Pg.gk) {f t : Str} {y : Ty} (hf : f = "isinstance") (hfg : isGlo C f = true) (hfb : Pg.gk f = .blt) (ht : isBlt C t = true) (hy : tyOf t = some y) (ha : PE X a (tF K T E A)) (sa : Syn a) :
    PE X (.Call (.Name f p) [a, .Name t p2] [] pos) (tF K T E fun ρ => do pure (.bl (← isiM (← A ρ) y))) := by
  subst hf
  obtain ⟨g1, g2, g3⟩ := G.glo hfg
  unfold isBlt at ht
  obtain ⟨t1, t2⟩ := Bool.and_eq_true_iff.mp ht
  obtain ⟨q1, q2, q3⟩ := G.glo t1
  have tb : Pg.gk t = .blt := by
    rw [← hC]
    split at t2
    · assumption
    · cases t2
  have hT : PE X (.Name t p2) (tC (.ty y.name)) := pe_bltn q1 (by rw [G.gl]; exact Y.blt t tb) (tyOf_boot hy) rfl q3 q2
  have hA : PA X [a, .Name t p2] (tCons (tF K T E A) (tCons (tC (.ty y.name)) tNil)) := pa_cons ha (pa_cons hT pa_nil (by rfl)) (sa.star _ _)
  refine (pe_callB (cb_isi (T := T) (t := y) G.fr) g1 (by rw [G.gl]; exact Y.blt _ hfb) boot_isinstance hA g3 g2 (sa.star _ _) (by rfl)).sub fun σ H Q h => ?_
  refine one_then (f := fun x _ => do pure (D.bl (← isiM x y))) h fun v H1 α1 h1 d ρ er S r o => ?_
  refine ⟨v, α1, h1, d, E, rfl, S, r, ?_⟩
  have o : Out K T E α1 H1 (M.bind (isiM d y) (fun b => M.pure (D.bl b)) h1) Q := o
  unfold M.bind at o
  cases e : isiM d y h1 with
  | ok b h' =>
    rw [e] at o
    intro α' H' v' ex S' r'
    cases r'
    exact o α' H' (.bl b) ex S' (.bl b)
  | exc c h' => rw [e] at o; exact o
  | stuck => rw [e] at o; exact o
/-! ### default= -/
theorem maxOf_eq (x : Int) (l : List Int) : PySem.W.maxOf x l = maxF x l := by
  unfold PySem.W.maxOf maxF
  congr 1
  funext a y
  show (if decide (a < y) = true then y else a) = _
  simp
theorem minOf_eq (x : Int) (l : List Int) : PySem.W.minOf x l = minF x l := by
  unfold PySem.W.minOf minF
  congr 1
  funext a y
  show (if decide (y < a) = true then y else a) = _
  simp
theorem holdAll_ints {h : Heap} : ∀ {ns : List Int} {its : List Value}, Vals (ns.map V.int) its → PySem.W.HoldAll h its ns
  | [], its, r => by
    cases r
    exact PySem.W.HoldAll.nil
  | n :: ns, its, r => by
    cases r with
    | cons r rs =>
      obtain ⟨t, rfl⟩ := r
      exact PySem.W.HoldAll.cons (PySem.W.holds_int n t) (holdAll_ints rs)
theorem holds_int_shape {h : Heap} {v : Value} {n : Int} (H : PySem.W.Holds h v n) : ∃ t, v = .int n t := by
  obtain ⟨as, r⟩ := H
  cases r with
  | int _ t => exact ⟨t, rfl⟩
def rDef (K : PySem.W.Frag) (T : Hp → Prop) (g : D → D → M D) : List V → List V → Hp → VK → Prop := fun xs zs H Q => ∃ x z α h a d W, xs = [x] ∧ zs = [z] ∧ Sim K T α h H ∧ RD α H a x ∧ RD α H d z ∧ Out K T W α H (g a d h) Q
theorem defM_cases {α : Al} {H : Hp} {h : AH} (S : Sim K T α h H) {f : Int → List Int → Int} {a d : D} {x z : V} {W : XK} {Q : VK} (ra : RD α H a x) (rd : RD α H d z) (o : Out K T W α H (b_defM f a d h) Q) :
    ∃ q ns, x = .ref q ∧ (H q = some (.lst (ns.map V.int)) ∨ H q = some (.tup (ns.map V.int))) ∧ (ns = [] → Q z H) ∧ ∀ y ys, ns = y :: ys → Q (.int (f y ys)) H := by
  unfold b_defM at o
  rcases items_any S ra with ⟨l, vs, q, e1, rfl, r1, z1, q1⟩ | e1
  · rw [bind_ok e1] at o
    cases e2 : intsD l with
    | none => simp only [e2] at o; exact False.elim o
    | some ns =>
      have ev := ints_rel r1 e2
      subst ev
      refine ⟨q, ns, rfl, ?_, fun en => ?_, fun y ys en => ?_⟩
      · rcases q1 with ⟨_, q1⟩ | ⟨_, q1⟩
        · exact .inl q1
        · exact .inr q1
      · subst en
        simp only [e2] at o
        exact OutG.pure o S rd
      · subst en
        simp only [e2] at o
        exact OutG.pure o S (.int _)
  · rw [bind_stuck e1] at o
    exact False.elim o
theorem cb_maxD (hK : X.K = K) (hc : X.calm = true) (hu : X.A.units + 70 < cLine) : CallRK X (.builtin "max") [Str.ofString "default"] (rDef K T (b_defM maxF)) := by
  subst hK
  intro pins s σ₀ H xs zs us ws Q I r1 r2 hx
  obtain ⟨x, z, α, h, a, d, W, ex, ez, S, ra, rd, o⟩ := hx
  subst ex ez
  obtain ⟨u, rfl, rx⟩ := vals1 r1
  obtain ⟨v, rfl, rz⟩ := vals1 r2
  obtain ⟨q, ns, rfl, hq, h0, h1⟩ := defM_cases S ra rd o
  cases rx
  have hu' : X.A.units + 1 + PySem.W.Datum.depth Int < cLine := by
    show X.A.units + 1 + 0 < cLine
    omega
  rcases hq with hq | hq
  · obtain ⟨its, rv, pl, hz⟩ := I.list (SqL.of hq)
    refine PySem.W.max_list_datum_default (xs := ns) (I.ok.hd hc) pl.isList (holdAll_ints rv) hu' (fun en h' tk hk => ⟨z, H, I.kept hk, rz, h0 en⟩) fun y ys i v' h' tk en hi hh hk => ?_
    obtain ⟨t, rfl⟩ := holds_int_shape hh
    exact ⟨.int _, H, I.kept hk, ⟨t, rfl⟩, by rw [maxOf_eq]; exact h1 y ys en⟩
  · obtain ⟨its, rv, pl, hz⟩ := I.tuple (SqT.of hq)
    refine PySem.W.max_tuple_datum_default (xs := ns) (I.ok.hd hc) (show s.heap.IsTuple q its.toArray from pl) (holdAll_ints rv) hu' (fun en h' tk hk => ⟨z, H, I.kept hk, rz, h0 en⟩) fun y ys i v' h' tk en hi hh hk => ?_
    obtain ⟨t, rfl⟩ := holds_int_shape hh
    exact ⟨.int _, H, I.kept hk, ⟨t, rfl⟩, by rw [maxOf_eq]; exact h1 y ys en⟩
theorem cb_minD (hK : X.K = K) (hc : X.calm = true) (hu : X.A.units + 70 < cLine) : CallRK X (.builtin "min") [Str.ofString "default"] (rDef K T (b_defM minF)) := by
  subst hK
  intro pins s σ₀ H xs zs us ws Q I r1 r2 hx
  obtain ⟨x, z, α, h, a, d, W, ex, ez, S, ra, rd, o⟩ := hx
  subst ex ez
  obtain ⟨u, rfl, rx⟩ := vals1 r1
  obtain ⟨v, rfl, rz⟩ := vals1 r2
  obtain ⟨q, ns, rfl, hq, h0, h1⟩ := defM_cases S ra rd o
  cases rx
  have hu' : X.A.units + 1 + PySem.W.Datum.depth Int < cLine := by
    show X.A.units + 1 + 0 < cLine
    omega
  rcases hq with hq | hq
  · obtain ⟨its, rv, pl, hz⟩ := I.list (SqL.of hq)
    refine PySem.W.min_list_datum_default (xs := ns) (I.ok.hd hc) pl.isList (holdAll_ints rv) hu' (fun en h' tk hk => ⟨z, H, I.kept hk, rz, h0 en⟩) fun y ys i v' h' tk en hi hh hk => ?_
    obtain ⟨t, rfl⟩ := holds_int_shape hh
    exact ⟨.int _, H, I.kept hk, ⟨t, rfl⟩, by rw [minOf_eq]; exact h1 y ys en⟩
  · obtain ⟨its, rv, pl, hz⟩ := I.tuple (SqT.of hq)
    refine PySem.W.min_tuple_datum_default (xs := ns) (I.ok.hd hc) (show s.heap.IsTuple q its.toArray from pl) (holdAll_ints rv) hu' (fun en h' tk hk => ⟨z, H, I.kept hk, rz, h0 en⟩) fun y ys i v' h' tk en hi hh hk => ?_
    obtain ⟨t, rfl⟩ := holds_int_shape hh
    exact ⟨.int _, H, I.kept hk, ⟨t, rfl⟩, by rw [minOf_eq]; exact h1 y ys en⟩
theorem se_bltD (G : Good P w K mg base k C E X) {f : Str} {g : D → D → M D} (hb : bltD f = some g) (hm : mg f = none) (hg : isGlo C f = true) (ha : PE X a (tF K T E A)) (hd : PE X b (tF K T E B)) (sa : Syn a) :
    PE X (.Call (.Name f p) [a] [⟨some (Str.ofString "default"), b, p2⟩] pos) (tF K T E fun ρ => do let x ← A ρ; let y ← B ρ; g x y) := by
  obtain ⟨g1, g2, g3⟩ := G.glo hg
  have hA : PA X [a] (tCons (tF K T E A) tNil) := pa_cons ha pa_nil (sa.star _ _)
  have hK : PK X [⟨some (Str.ofString "default"), b, p2⟩] (tCons (tF K T E B) tNil) := pk_cons hd pk_nil
  have sub : ∀ σ H Q, tF K T E (fun ρ => do let x ← A ρ; let y ← B ρ; g x y) σ H Q → tCKw (rDef K T g) (tCons (tF K T E A) tNil) (tCons (tF K T E B) tNil) σ H Q := fun σ H Q h =>
    one_then (f := fun x ρ => do let y ← B ρ; g x y) h fun v H1 α1 h1 d ρ er S r o =>
      ⟨α1, ρ, h1, er, S, (OutG.bind (Rel := RD) o).imp fun y H2 ⟨α2, h2, d2, ex2, S2, r2, o2⟩ => ⟨v, y, α2, h2, d, d2, E, rfl, rfl, S2, r.mono ex2, r2, o2⟩⟩
  have e1 : ∀ env, backTo pos (starEach [a] env) = (false, eval a env) :: backTo pos (starEach [] env) := fun env => by rw [sa.star] <;> rfl
  have e2 : ∀ env, (backTo pos (starEach [a] env)).any (·.1) = false := fun env => by rw [sa.star] <;> rfl
  unfold bltD at hb
  split at hb
  · rename_i h; subst h; cases hb
    exact (pe_callBK (cb_maxD G.fr G.calm G.units) g1 (by rw [G.gl]; exact hm) boot_max hA hK g3 g2 (e1 _) (e2 _)).sub sub
  split at hb
  · rename_i h; subst h; cases hb
    exact (pe_callBK (cb_minD G.fr G.calm G.units) g1 (by rw [G.gl]; exact hm) boot_min hA hK g3 g2 (e1 _) (e2 _)).sub sub
  cases hb
/-! ### methods -/
theorem rds_snoc {α : Al} {H : Hp} {l : List D} {vs : List V} {d : D} {v : V} (r : RDs α H l vs) (rd : RD α H d v) : RDs α H (l ++ [d]) (vs ++ [v]) := r.append (.cons rd .nil)
theorem app_sub (TO : TabOk T) {n : Nat} {q : Addr} {α : Al} {h : AH} {H : Hp} {l : List D} {vs : List V} {Q : VK} (S : Sim K T α h H) (en : α.l[n]? = some q) (r : RDs α H l vs) (o : Out K T E α H (appM n l h) Q) : rAppend (.ref q) vs H Q := by
  cases r with
  | nil => exact False.elim o
  | @cons d v l vs r1 r2 =>
    cases r2 with
    | cons _ _ => exact False.elim o
    | nil =>
      obtain ⟨c, hc, cr⟩ := S.has en
      cases c with
      | lst m =>
        obtain ⟨ws, e1, rs, z⟩ := cr
        have e : appM n [d] h = (if m.length < most then do setC n (.lst (m ++ [d])); pure .non else M.stuck : M D) h := bind_ok (getC_ok hc)
        rw [e] at o
        split at o
        · rename_i hl
          have hl' : m.length < sizeLine := Nat.lt_of_lt_of_le hl most_le
          have me := List.mem_of_getElem? en
          refine ⟨q, ws, v, rfl, rfl, e1, by rw [← rs.length]; exact hl', ?_⟩
          have c2 : CellR K α (upd H q (.lst (ws ++ [v]))) q (.lst (m ++ [d])) := ⟨_, upd_same, rds_snoc (rs.mono (S.wrote en)) (r1.mono (S.wrote en)), by rw [List.length_append]; exact hl'⟩
          exact o α _ .non (S.wrote en) (S.write (TO := TO) en c2) .non
        · exact False.elim o
      | dct b m =>
        have e : appM n [d] h = .stuck := bind_ok (getC_ok hc)
        rw [e] at o
        exact False.elim o
      | ins c m =>
        have e : appM n [d] h = .stuck := bind_ok (getC_ok hc)
        rw [e] at o
        exact False.elim o
theorem meth_eq {m : Str} (hb : plainBase a = true) (hl : (apos.endLine == pos.line) = true) (hn : es.length < 29) (hs : ∀ env pos, (backTo pos (starEach es env)).any (·.1) = false) (env : PySem.Env) :
    eval (.Call (.Attribute a m apos) es [] pos) env = (do
      let ov ← eval a env
      standAt apos.atName
      let (f, first) ← holding [ov] (getMethod ov m (plainOf a env))
      callWith pos f first (backTo pos (starEach es env)) (backToKw pos (keywordEach [] env))) := by
  have e1 : eval (.Call (.Attribute a m apos) es [] pos) env = (do
      let ov ← attributeBase a m env (eval a env)
      standAt apos.atName
      methodCall a m apos pos env ov (es.length + 0) (backTo pos (starEach es env)) (backToKw pos (keywordEach [] env))) := rfl
  rw [e1, base_of hb]
  have hf : methodCallForm (es.length + 0) (backTo pos (starEach es env)) (backToKw pos (keywordEach [] env)) = true := by
    have h1 : (backTo pos (starEach es env)).all (!·.1) = true := by
      have := hs env pos
      rw [List.all_eq_not_any_not]
      simpa using this
    unfold methodCallForm
    rw [h1]
    show (true && true && decide (es.length + 0 + 0 < 30)) = true
    rw [decide_eq_true (by omega)] <;> rfl
  congr 1
  funext ov
  congr 1
  funext _
  exact mcall_line hf hl
theorem se_meth (G : Good P w K mg base k C E X) (Z : Clz P w K mg base T Pg k) (Y : Fx K mg T Pg) {m : Str} (ha : PE X a (tF K T E A)) (hL : PA X es (tFA K T E L)) (h0 : es = [] → L = fun _ => pure [])
    (h1' : ∀ e r, es = e :: r → Syn e ∧ ∀ env pos, (backTo pos (starEach r env)).any (·.1) = false) (hb : plainBase a = true) (hl : (apos.endLine == pos.line) = true) (hn : es.length < 29) (hs : ∀ env pos, (backTo pos (starEach es env)).any (·.1) = false) :
    PE X (.Call (.Attribute a m apos) es [] pos) (tF K T E fun ρ => do methM Pg.ms (run Pg k) m (← A ρ) (L ρ)) := by
  refine PE.pick fun σ H Q h => ?_
  obtain ⟨α, ρ, hh, er, S, o⟩ := h
  have o : Out K T E α H (M.bind (A ρ) (fun x => methM Pg.ms (run Pg k) m x (L ρ)) hh) Q := o
  -- what the receiver is
  have stk : ∀ {x : D} {h1 : AH}, A ρ hh = .ok x h1 → methM Pg.ms (run Pg k) m x (L ρ) h1 = .stuck → False := fun {x h1} e1 e2 => by
    unfold M.bind at o
    rw [e1] at o
    have o : Out K T E α H (methM Pg.ms (run Pg k) m x (L ρ) h1) Q := o
    rw [e2] at o
    exact o
  cases eA : A ρ hh with
  | stuck =>
    unfold M.bind at o
    rw [eA] at o
    exact False.elim o
  | exc c h1 => 
    -- the receiver raises: any reading serves
    unfold M.bind at o
    rw [eA] at o
    refine ⟨fun σ H Q => tF K T E A σ H fun _ _ => False, ⟨fun pins s σ H Q I q => ?_⟩, α, ρ, hh, er, S, ?_⟩
    · refine PySem.W.methodCall_KW (thn (ha.run pins s σ H _ I q) fun u s1 ⟨x, H1, I1, rx, z⟩ => z.elim) (meth_eq hb hl hn hs X.env)
    · rw [eA]; exact o
  | ok x h1 =>
    have key : ∀ {n : Nat}, x = .ref n → ∀ {c : Cell}, h1[n]? = some c → (∃ l, c = .lst l ∧ m = "append") ∨ (∃ c' fs, c = .ins c' fs ∧ (fs.lookup m).isNone = true ∧ (c', m) ∈ Pg.ms) := fun {n} ex {c} hc => by
      subst ex
      cases c with
      | lst l =>
        by_cases hm : m = "append"
        · exact .inl ⟨l, rfl, hm⟩
        · refine (stk eA ?_).elim
          show (getC n >>= _) h1 = _
          rw [bind_ok (getC_ok hc)]
          show (if m = "append" then _ else M.stuck : M D) h1 = _
          rw [if_neg hm]
          rfl
      | dct b l => exact (stk eA (bind_ok (getC_ok hc))).elim
      | ins c' fs =>
        by_cases hm : (fs.lookup m).isNone ∧ (c', m) ∈ Pg.ms
        · exact .inr ⟨c', fs, rfl, hm.1, hm.2⟩
        · refine (stk eA ?_).elim
          show (getC n >>= _) h1 = _
          rw [bind_ok (getC_ok hc)]
          show (if (fs.lookup m).isNone ∧ (c', m) ∈ Pg.ms then _ else M.stuck : M D) h1 = _
          rw [if_neg hm]
          rfl
    have isref : ∃ n c, x = .ref n ∧ h1[n]? = some c := by
      cases x with
      | ref n =>
        cases hc : h1[n]? with
        | some c => exact ⟨n, c, rfl, hc⟩
        | none =>
          refine (stk eA ?_).elim
          show (getC n >>= _) h1 = _
          refine bind_stuck ?_
          unfold getC
          rw [hc]
      | _ => exact (stk eA rfl).elim
    obtain ⟨n, c, rfl, hc⟩ := isref
    rcases key rfl hc with ⟨l, rfl, hm⟩ | ⟨c', fs, rfl, hm1, hm2⟩
    · -- append
      subst hm
      have o1 : OutG RD K T E α H (A ρ hh) (fun v H1 => ∃ α1 h1 d, Ext α α1 H H1 ∧ Sim K T α1 h1 H1 ∧ RD α1 H1 d v ∧ A ρ hh = .ok d h1 ∧ Out K T E α1 H1 (methM Pg.ms (run Pg k) "append" d (L ρ) h1) Q) := by
        rw [eA]
        intro α1 H1 v ex S1 r
        unfold M.bind at o
        rw [eA] at o
        exact ⟨α1, h1, .ref n, ex, S1, r, rfl, OutG.ext o ex⟩
      have fin : ∀ {v : V} {H1 : Hp} {α1 : Al} {g1 : AH} {d : D}, Ext α α1 H H1 → Sim K T α1 g1 H1 → RD α1 H1 d v → A ρ hh = .ok d g1 → Out K T E α1 H1 (methM Pg.ms (run Pg k) "append" d (L ρ) g1) Q →
          tyV K "list" v H1 ∧ tFA K T E L σ H1 fun xs H2 => rAppend v xs H2 Q := fun {v H1 α1 g1 d} ex S1 r eq o2 => by
        rw [eA] at eq
        cases eq
        cases r with
        | @ref _ q en =>
        obtain ⟨ws, e1, rs, z⟩ := S1.cell n q _ en hc
        refine ⟨.inl ⟨rfl, ws, SqL.of e1⟩, α1, ρ, h1, er.mono ex, S1, ?_⟩
        have e2 : methM Pg.ms (run Pg k) "append" (.ref n) (L ρ) h1 = (do appM n (← L ρ) : M D) h1 := by
          show (getC n >>= _) h1 = _
          rw [bind_ok (getC_ok hc)]
          rfl
        rw [e2] at o2
        exact (OutG.bind (Rel := RDs) o2).imp fun vs H2 ⟨α2, h2, l2, ex2, S2, r2, o3⟩ => app_sub Y.TO S2 (ex2.pre _ _ en) r2 o3
      cases es with
      | nil =>
        refine ⟨fun σ H Q => tF K T E A σ H fun _ _ => False, ⟨fun pins s σ H Q I q => PySem.W.methodCall_KW (thn (ha.run pins s σ H _ I q) fun u s1 ⟨x, H1, I1, rx, z⟩ => z.elim) (meth_eq hb hl hn hs X.env)⟩, α, ρ, hh, er, S, ?_⟩
        refine o1.imp fun v H1 ⟨α1, g1, d, ex, S1, r, eq, o2⟩ => ?_
        obtain ⟨_, α2, ρ2, h2, er2, S2, o3⟩ := fin ex S1 r eq o2
        rw [h0 rfl] at o3
        obtain ⟨l', xs', y', _, e, _⟩ := OutG.pure (Rel := RDs) o3 S2 .nil
        cases e
      | cons e r =>
        obtain ⟨s1, s2⟩ := h1' e r rfl
        have hfew : ((backTo pos (starEach (e :: r) X.env)).all (fun x => !x.1) && (backToKw pos (keywordEach [] X.env)).all (fun x => x.1.isSome)
            && decide ((e :: r).length + ([] : List Keyword).length + (if ([] : List Keyword).isEmpty then 0 else 1) < 30)) = true := by
          have q1 : (backTo pos (starEach (e :: r) X.env)).all (fun x => !x.1) = true := by
            have := hs X.env pos
            rw [List.all_eq_not_any_not]
            simpa using this
          rw [q1]
          show (true && true && decide ((e :: r).length + 0 + 0 < 30)) = true
          rw [decide_eq_true (by omega)] <;> rfl
        refine ⟨_, pe_bm PySem.F.plainAttrs_list PySem.F.slot_list_append PySem.F.type_list_append mt_append ha hL (base_of hb) hfew hl (s1.star r X.env) (s2 X.env pos), α, ρ, hh, er, S, ?_⟩
        refine o1.imp fun v H1 ⟨α1, g1, d, ex, S1, r, eq, o2⟩ => ?_
        rw [G.fr]
        exact fin ex S1 r eq o2
    · -- a method of an own class
      obtain ⟨mi, d, hd⟩ := Y.ms c' m hm2
      obtain ⟨fa, fd, F, B, at1, at2⟩ := Z _ _ hd
      obtain ⟨c1, c2⟩ := at2 mi
      have o1 : OutG RD K T E α H (A ρ hh) (fun v H1 => ∃ a dx r, v = .ref a ∧ H1 a = some (.ins (He.ga K c') dx r) ∧ r.lookup m = none ∧ tFA K T E L σ H1 fun vs H2 => spD K T (run Pg k (c', some m)) (v :: (vs ++ [])) H2 Q E) := by
        rw [eA]
        intro α1 H1 v ex S1 r
        unfold M.bind at o
        rw [eA] at o
        have o2 : Out K T E α1 H1 (methM Pg.ms (run Pg k) m (.ref n) (L ρ) h1) Q := OutG.ext o ex
        cases r with
        | @ref _ q en =>
        obtain ⟨dx, rr, e1, fr, z⟩ := S1.cell n q _ en hc
        have hno : rr.lookup m = none := by
          rcases fr.lookup (f := m) with ⟨_, q2⟩ | ⟨d', v', q1, _⟩
          · exact q2
          · rw [q1] at hm1; cases hm1
        refine ⟨q, dx, rr, rfl, e1, hno, α1, ρ, h1, er.mono ex, S1, ?_⟩
        have e2 : methM Pg.ms (run Pg k) m (.ref n) (L ρ) h1 = (do run Pg k (c', some m) (.ref n :: (← L ρ)) : M D) h1 := by
          show (getC n >>= _) h1 = _
          rw [bind_ok (getC_ok hc)]
          show (if (fs.lookup m).isNone ∧ (c', m) ∈ Pg.ms then _ else M.stuck : M D) h1 = _
          rw [if_pos ⟨hm1, hm2⟩]
        rw [e2] at o2
        refine (OutG.bind (Rel := RDs) o2).imp fun vs H2 ⟨α2, h2, l2, ex2, S2, r2, o3⟩ => ?_
        rw [List.append_nil]
        exact ⟨α2, h2, .ref n :: l2, S2, .cons (.ref (ex2.pre _ _ en)) r2, o3⟩
      have rm := G.rm
      obtain ⟨pr, wo, fr, gl, bs, na, sc, nd, calm, room, tk, po, fnl, kd⟩ := G
      subst pr wo fr gl bs
      cases es with
      | nil =>
        refine ⟨_, pe_meth0 (pl := plainOf a X.env) ha c1 c2 F (rm.mono (by omega)) B .nil (L2N.passes_call tk fun _ _ _ _ h => h) (meth_eq hb hl hn hs X.env), α, ρ, hh, er, S, ?_⟩
        refine o1.imp fun v H1 ⟨q, dx, rr, e1, e2, e3, α2, ρ2, h2, er2, S2, o3⟩ => ⟨q, dx, rr, e1, e2, e3, ?_⟩
        rw [h0 rfl] at o3
        exact OutG.pure (Rel := RDs) o3 S2 .nil
      | cons e r =>
        obtain ⟨s1, s2⟩ := h1' e r rfl
        exact ⟨_, pe_meth (pl := plainOf a X.env) ha c1 c2 F (rm.mono (by omega)) B .nil (L2N.passes_call tk fun _ _ _ _ h => h) hL (s1.star r X.env) (s2 X.env pos) (meth_eq hb hl hn hs X.env), α, ρ, hh, er, S, o1⟩
end
end Cr
set_option Elab.async false
set_option linter.all false
set_option maxRecDepth 100000
set_option maxHeartbeats 1000000
/-! What loops walk; loops; comprehensions. -/
namespace Cr
open PySem PySem.Spec PyProof.Rows L2
theorem _root_.L2.PI.pick {X : Cx} {tg e : Expr} {u : TI} (f : ∀ σ H R, u σ H R → ∃ t, PI X tg e t ∧ t σ H R) : PI X tg e u := ⟨fun pins s σ H R I q => by
  obtain ⟨t, h, ht⟩ := f σ H R q
  exact h.run pins s σ H R I ht⟩
theorem _root_.L2.PI.sub {X : Cx} {tg e : Expr} {t u : TI} (h : PI X tg e t) (f : ∀ σ H R, u σ H R → t σ H R) : PI X tg e u := ⟨fun pins s σ H R I q => h.run pins s σ H R I (f σ H R q)⟩
/-- an iterator that yields the items of l, whatever becomes of the abstract heap -/
structure Yf (K : PySem.W.Frag) (T : Hp → Prop) (α : Al) (H : Hp) (l : List D) (J : It) : Prop where
  len : l.length ≤ sizeLine
  go : ∀ (i : Nat) d, l[i]? = some d → ∀ α' h' H', Ext0 α α' H H' → Sim K T α' h' H' → J.go i H' ∧ ∀ x H'', J.yld i H' x H'' → Ext α' α' H' H'' ∧ Sim K T α' h' H'' ∧ RD α' H'' d x
  stop : ∀ α' h' H', Ext0 α α' H H' → Sim K T α' h' H' → J.stop l.length H'
def RIt (K : PySem.W.Frag) (T : Hp → Prop) (α : Al) (H : Hp) : ItK → It → Prop
  | .fix l, J => Yf K T α H l J
  | .cur n, J => ∃ a, α.l[n]? = some a ∧ J = Itl K a
section
variable {K : PySem.W.Frag} {T : Hp → Prop} {α : Al} {H : Hp}
theorem yf_list {a : Addr} {l : List D} {vs : List V} (e : H a = some (.lst vs)) (na : a ∉ α) (hl : l.length ≤ sizeLine) (r : RDs α H l vs) : Yf K T α H l (Itl K a) := by
  refine ⟨hl, fun i d hd α' h' H' ex S => ?_, fun α' h' H' ex S => ?_⟩
  · obtain ⟨v, e1, r1⟩ := r.get hd
    have sq : SqL K H' a vs := SqL.of (ex.at e na (fun _ z => by cases z))
    refine ⟨⟨vs, v, sq, e1⟩, fun x H'' y => ?_⟩
    obtain ⟨rfl, y⟩ := y
    have q := y vs sq
    rw [e1] at q
    cases q
    exact ⟨.refl _ _, S, r1.mono0 ex⟩
  · exact ⟨vs, SqL.of (ex.at e na (fun _ z => by cases z)), by rw [r.length]; exact Nat.le_refl _⟩
theorem yf_tup {a : Addr} {l : List D} {vs : List V} (e : H a = some (.tup vs)) (na : a ∉ α) (hl : l.length ≤ sizeLine) (r : RDs α H l vs) : Yf K T α H l (Itt K a) := by
  refine ⟨hl, fun i d hd α' h' H' ex S => ?_, fun α' h' H' ex S => ?_⟩
  · obtain ⟨v, e1, r1⟩ := r.get hd
    have sq : SqT K H' a vs := SqT.of (ex.at e na (fun _ z => by cases z))
    refine ⟨⟨vs, v, sq, e1⟩, fun x H'' y => ?_⟩
    obtain ⟨rfl, y⟩ := y
    have q := y vs sq
    rw [e1] at q
    cases q
    exact ⟨.refl _ _, S, r1.mono0 ex⟩
  · exact ⟨vs, SqT.of (ex.at e na (fun _ z => by cases z)), by rw [r.length]; exact Nat.le_refl _⟩
theorem rangeL_get {lo hi : Int} {i : Nat} {d : D} (h : (rangeL lo hi)[i]? = some d) : i < (hi - lo).toNat ∧ d = .int (lo + (i : Int)) := by
  unfold rangeL at h
  rw [List.getElem?_map] at h
  cases e : (List.range (hi - lo).toNat)[i]? with
  | none => rw [e] at h; cases h
  | some k =>
    rw [e] at h
    obtain ⟨h1, h2⟩ := List.getElem?_eq_some_iff.mp e
    rw [List.getElem_range] at h2
    subst h2
    cases h
    exact ⟨by simpa using h1, rfl⟩
theorem rangeL_length (lo hi : Int) : (rangeL lo hi).length = (hi - lo).toNat := by simp [rangeL]
theorem yf_range {lo hi : Int} (hz : (hi - lo).toNat ≤ sizeLine) : Yf K T α H (rangeL lo hi) (Itr lo (hi - lo).toNat) := by
  refine ⟨by rw [rangeL_length]; exact hz, fun i d hd α' h' H' ex S => ?_, fun α' h' H' ex S => ?_⟩
  · obtain ⟨h1, rfl⟩ := rangeL_get hd
    refine ⟨h1, fun x H'' y => ?_⟩
    obtain ⟨rfl, rfl⟩ := y
    exact ⟨.refl _ _, S, .int _⟩
  · show (hi - lo).toNat ≤ (rangeL lo hi).length
    rw [rangeL_length]
    exact Nat.le_refl _
theorem enumL_length : ∀ (k : Nat) (l : List D), (enumL k l).length = l.length
  | _, [] => rfl
  | k, d :: r => by simp [enumL, enumL_length (k + 1) r]
theorem enumL_get : ∀ {k : Nat} {l : List D} {i : Nat} {d : D}, (enumL k l)[i]? = some d → ∃ x, l[i]? = some x ∧ d = .tup [.int ((k + i : Nat) : Int), x]
  | _, [], _, _, h => by simp [enumL] at h
  | k, x :: r, 0, d, h => by
    simp [enumL] at h
    subst h
    exact ⟨x, rfl, by simp⟩
  | k, x :: r, i + 1, d, h => by
    obtain ⟨y, h1, h2⟩ := enumL_get (k := k + 1) (l := r) (i := i) (d := d) (by simpa [enumL] using h)
    refine ⟨y, by simpa using h1, ?_⟩
    rw [h2]
    have : k + 1 + i = k + (i + 1) := by omega
    rw [this]
theorem two_le : 2 ≤ sizeLine := by decide
/-- a new pair -/
theorem pair_new {TO : TabOk T} {α' : Al} {h' : AH} {H' : Hp} {q : Addr} {x y : V} {d e : D} (S : Sim K T α' h' H') (hq : H' q = none) (r1 : RD α' H' d x) (r2 : RD α' H' e y) :
    Ext α' α' H' (upd H' q (.tup [x, y])) ∧ Sim K T α' h' (upd H' q (.tup [x, y])) ∧ RD α' (upd H' q (.tup [x, y])) (.tup [d, e]) (.ref q) :=
  ⟨S.fresh hq, S.upd (TO := TO) hq, .tup upd_same (S.free hq) two_le (.cons (r1.mono (S.fresh hq)) (.cons (r2.mono (S.fresh hq)) .nil))⟩
theorem yf_enum (TO : TabOk T) {a : Addr} {l : List D} {vs : List V} (e : H a = some (.lst vs)) (na : a ∉ α) (hl : l.length ≤ sizeLine) (r : RDs α H l vs) : Yf K T α H (enumL 0 l) (Ite K a) := by
  refine ⟨by rw [enumL_length]; exact hl, fun i d hd α' h' H' ex S => ?_, fun α' h' H' ex S => ?_⟩
  · obtain ⟨z, h1, rfl⟩ := enumL_get hd
    obtain ⟨v, e1, r1⟩ := r.get h1
    have sq : SqL K H' a vs := SqL.of (ex.at e na (fun _ z => by cases z))
    refine ⟨⟨vs, v, sq, e1⟩, fun x H'' y => ?_⟩
    obtain ⟨q, w, rfl, hq, rfl, y⟩ := y
    have q1 := y vs sq
    rw [e1] at q1
    cases q1
    rw [Nat.zero_add]
    exact pair_new (TO := TO) S hq (.int _) (r1.mono0 ex)
  · exact ⟨vs, SqL.of (ex.at e na (fun _ z => by cases z)), by rw [enumL_length, r.length]; exact Nat.le_refl _⟩
theorem zipL_length : ∀ l r : List D, (zipL l r).length = min l.length r.length
  | [], r => by simp [zipL]
  | _ :: _, [] => by simp [zipL]
  | a :: l, b :: r => by
    simp only [zipL, List.length_cons, zipL_length l r]
    omega
theorem zipL_get : ∀ {l r : List D} {i : Nat} {d : D}, (zipL l r)[i]? = some d → ∃ x y, l[i]? = some x ∧ r[i]? = some y ∧ d = .tup [x, y]
  | [], r, _, _, h => by simp [zipL] at h
  | _ :: _, [], _, _, h => by simp [zipL] at h
  | a :: l, b :: r, 0, d, h => by
    simp [zipL] at h
    subst h
    exact ⟨a, b, rfl, rfl, rfl⟩
  | a :: l, b :: r, i + 1, d, h => by
    obtain ⟨x, y, h1, h2, h3⟩ := zipL_get (l := l) (r := r) (i := i) (d := d) (by simpa [zipL] using h)
    exact ⟨x, y, by simpa using h1, by simpa using h2, h3⟩
theorem yf_zipL (TO : TabOk T) {a b : Addr} {l m : List D} {vs ws : List V} (e : H a = some (.lst vs)) (na : a ∉ α) (hl : l.length ≤ sizeLine) (r : RDs α H l vs) (e' : H b = some (.lst ws)) (nb : b ∉ α) (r' : RDs α H m ws) : Yf K T α H (zipL l m) (Itz K a b) := by
  refine ⟨by rw [zipL_length]; exact Nat.le_trans (Nat.min_le_left _ _) hl, fun i d hd α' h' H' ex S => ?_, fun α' h' H' ex S => ?_⟩
  · obtain ⟨x, y, h1, h2, rfl⟩ := zipL_get hd
    obtain ⟨v, e1, r1⟩ := r.get h1
    obtain ⟨u, e2, r2⟩ := r'.get h2
    have sq : SqL K H' a vs := SqL.of (ex.at e na (fun _ z => by cases z))
    have sq' : SqL K H' b ws := SqL.of (ex.at e' nb (fun _ z => by cases z))
    refine ⟨⟨vs, ws, v, u, sq, sq', e1, e2⟩, fun x H'' y => ?_⟩
    obtain ⟨q, w1, w2, rfl, hq, rfl, y1, y2⟩ := y
    have q1 := y1 vs sq
    have q2 := y2 ws sq'
    rw [e1] at q1
    rw [e2] at q2
    cases q1; cases q2
    exact pair_new (TO := TO) S hq (r1.mono0 ex) (r2.mono0 ex)
  · refine ⟨vs, ws, SqL.of (ex.at e na (fun _ z => by cases z)), SqL.of (ex.at e' nb (fun _ z => by cases z)), ?_⟩
    rw [zipL_length, r.length, r'.length]
    omega
theorem yf_zipT (TO : TabOk T) {a b : Addr} {l m : List D} {vs ws : List V} (e : H a = some (.tup vs)) (na : a ∉ α) (hl : l.length ≤ sizeLine) (r : RDs α H l vs) (e' : H b = some (.tup ws)) (nb : b ∉ α) (r' : RDs α H m ws) : Yf K T α H (zipL l m) (RZ.ItzT K a b) := by
  refine ⟨by rw [zipL_length]; exact Nat.le_trans (Nat.min_le_left _ _) hl, fun i d hd α' h' H' ex S => ?_, fun α' h' H' ex S => ?_⟩
  · obtain ⟨x, y, h1, h2, rfl⟩ := zipL_get hd
    obtain ⟨v, e1, r1⟩ := r.get h1
    obtain ⟨u, e2, r2⟩ := r'.get h2
    have sq : SqT K H' a vs := SqT.of (ex.at e na (fun _ z => by cases z))
    have sq' : SqT K H' b ws := SqT.of (ex.at e' nb (fun _ z => by cases z))
    refine ⟨⟨vs, ws, v, u, sq, sq', e1, e2⟩, fun x H'' y => ?_⟩
    obtain ⟨q, w1, w2, rfl, hq, rfl, y1, y2⟩ := y
    have q1 := y1 vs sq
    have q2 := y2 ws sq'
    rw [e1] at q1
    rw [e2] at q2
    cases q1; cases q2
    exact pair_new (TO := TO) S hq (r1.mono0 ex) (r2.mono0 ex)
  · refine ⟨vs, ws, SqT.of (ex.at e na (fun _ z => by cases z)), SqT.of (ex.at e' nb (fun _ z => by cases z)), ?_⟩
    rw [zipL_length, r.length, r'.length]
    omega
end
section
variable {P : Program} {w : World} {K : PySem.W.Frag} {mg : Str → Option Value} {base : Heap} {T : Hp → Prop} {Pg : Prog} {k : Nat} {C : CC} {E : XK} {X : Cx}
variable {a b e tg : Expr} {es : List Expr} {pos p p2 tpos : Pos} {A B : Env → M D} {L : Env → M (List D)} {elts : List Expr} {kk : Nat}
abbrev tI (K : PySem.W.Frag) (T : Hp → Prop) (E : XK) (F : Env → M ItK) : TI := tG (RIt K T) K T E F
theorem si_any (hK : X.K = K) (ha : PE X e (tF K T E A)) : PI X tg e (tI K T E fun ρ => do itM (← A ρ)) := by
  refine PI.pick fun σ H R ⟨α, ρ, hh, er, S, o⟩ => ?_
  subst hK
  have o : OutG (RIt X.K T) X.K T E α H (M.bind (A ρ) itM hh) R := o
  have tupCase : (∃ l h1, A ρ hh = .ok (.tup l) h1) ∨ ¬ ∃ l h1, A ρ hh = .ok (.tup l) h1 := Classical.em _
  rcases tupCase with ⟨l, h1, eA⟩ | hn
  · refine ⟨_, pi_tup ha, α, ρ, hh, er, S, ?_⟩
    rw [eA]
    intro α1 H1 v ex S1 r
    unfold M.bind at o
    rw [eA] at o
    cases r with
    | @tup q _ vs e1 n1 l1 rs => exact ⟨q, rfl, ⟨vs, SqT.of e1⟩, o α1 H1 _ ex S1 (yf_tup e1 n1 l1 rs)⟩
  · refine ⟨_, pi_list ha, α, ρ, hh, er, S, ?_⟩
    unfold M.bind at o
    cases eA : A ρ hh with
    | stuck => rw [eA] at o; exact o
    | exc c h1 => rw [eA] at o; exact o
    | ok d h1 =>
      rw [eA] at o
      intro α1 H1 v ex S1 r
      have o : OutG (RIt X.K T) X.K T E α H (itM d h1) R := o
      cases r with
      | tup e1 n1 l1 rs => exact absurd ⟨_, _, eA⟩ hn
      | @lst q _ vs e1 n1 l1 rs => exact ⟨q, rfl, ⟨vs, SqL.of e1⟩, o α1 H1 _ ex S1 (yf_list e1 n1 l1 rs)⟩
      | @ref n q en =>
        obtain ⟨c, hc, cr⟩ := S1.has en
        cases c with
        | lst l =>
          obtain ⟨vs, e1, rs, z⟩ := cr
          have e2 : itM (.ref n) h1 = .ok (.cur n) h1 := bind_ok (getC_ok hc)
          rw [e2] at o
          exact ⟨q, rfl, ⟨vs, SqL.of e1⟩, o α1 H1 _ ex S1 ⟨q, en, rfl⟩⟩
        | dct lk l =>
          have e2 : itM (.ref n) h1 = .stuck := bind_ok (getC_ok hc)
          rw [e2] at o
          exact False.elim o
        | ins c l =>
          have e2 : itM (.ref n) h1 = .stuck := bind_ok (getC_ok hc)
          rw [e2] at o
          exact False.elim o
      | non => exact False.elim o
      | bl b => exact False.elim o
      | int i => exact False.elim o
      | str x => exact False.elim o
      | scr _ _ => exact False.elim o
theorem rng_ok {i : Int} (h : rngOk i = true) : -1000000 ≤ i ∧ i ≤ 1000000 := by
  unfold rngOk at h
  simpa using h
theorem size_big : 2000000 ≤ sizeLine := by decide
theorem si_range1 (G : Good P w K mg base k C E X) {f : Str} (hf : f = "range") (hm : mg f = none) (hg : isGlo C f = true) (ha : PE X e (tF K T E A)) (s1 : Syn e) : PI X tg (.Call (.Name f p) [e] [] pos) (tI K T E fun ρ => do rng1M (← A ρ)) := by
  subst hf
  obtain ⟨g1, g2, g3⟩ := G.glo hg
  refine (pi_range1 (tg := tg) g1 (by rw [G.gl]; exact hm) (pa_cons ha pa_nil (s1.star _ _)) (by rw [s1.star] <;> rfl)).sub fun σ H R h => ?_
  refine one_then (f := fun x _ => rng1M x) h fun v H1 α1 h1 l ρ er S r o => ?_
  cases r <;> first
    | exact False.elim o
    | skip
  rename_i j
  have o : OutG (RIt K T) K T E α1 H1 ((if rngOk j then pure (.fix (rangeL 0 j)) else M.stuck : M ItK) h1) R := o
  split at o
  · rename_i hr
    obtain ⟨q1, q2⟩ := rng_ok hr
    have := size_big
    refine ⟨j, rfl, by omega, by omega, ?_⟩
    have yf : Yf K T α1 H1 (rangeL 0 j) (Itr 0 (j - 0).toNat) := yf_range (by omega)
    rw [Int.sub_zero] at yf
    exact OutG.pure (Rel := RIt K T) o S yf
  · exact False.elim o
theorem si_range2 (G : Good P w K mg base k C E X) {f : Str} (hf : f = "range") (hm : mg f = none) (hg : isGlo C f = true) (ha : PE X a (tF K T E A)) (s1 : Syn a) (hb : PE X b (tF K T E B)) (s2 : Syn b) :
    PI X tg (.Call (.Name f p) [a, b] [] pos) (tI K T E fun ρ => do rng2M (← A ρ) (← B ρ)) := by
  subst hf
  obtain ⟨g1, g2, g3⟩ := G.glo hg
  refine (pi_range2 (tg := tg) g1 (by rw [G.gl]; exact hm) (pa_cons ha (pa_cons hb pa_nil (s2.star _ _)) (s1.star _ _)) (by rw [s1.star, s2.star] <;> rfl) (by rw [s2.star] <;> rfl)).sub fun σ H R h => ?_
  refine one_then (f := fun x ρ => do rng2M x (← B ρ)) h fun v H1 α1 h1 l ρ er S r o => ?_
  refine ⟨α1, ρ, h1, er, S, (OutG.bind (Rel := RD) o).imp fun y H2 ⟨α2, h2, d2, ex2, S2, r2, o2⟩ => ?_⟩
  cases r with
  | int i =>
    cases r2 with
    | int j =>
      have o : OutG (RIt K T) K T E α2 H2 ((if rngOk i && rngOk j then pure (.fix (rangeL i j)) else M.stuck : M ItK) h2) R := o2
      split at o
      · rename_i hr
        obtain ⟨hr1, hr2⟩ := Bool.and_eq_true_iff.mp hr
        obtain ⟨q1, q2⟩ := rng_ok hr1
        obtain ⟨q3, q4⟩ := rng_ok hr2
        have := size_big
        exact ⟨i, j, rfl, ⟨by omega, by omega, by omega, by omega⟩, OutG.pure (Rel := RIt K T) o S2 (yf_range (by omega))⟩
      · exact False.elim o
    | _ => exact False.elim o2
  | _ => exact False.elim o2
theorem rg_one {C : CC} {f : Str} {as : List Expr} {a : Expr} (h : rgArg C f as = some (a, none)) : ∃ p1 p2, f = "list" ∧ as = [.Call (.Name "range" p1) [a] [] p2] ∧ isBlt C "range" = true := by
  unfold rgArg at h
  split at h
  · split at h
    · rename_i hc
      simp only [Bool.and_eq_true, decide_eq_true_eq] at hc
      obtain ⟨h1, h2, h3⟩ := hc
      subst h2
      cases h
      exact ⟨_, _, h1, rfl, h3⟩
    · cases h
  · split at h <;> cases h
  · cases h
theorem rg_two {C : CC} {f : Str} {as : List Expr} {a b : Expr} (h : rgArg C f as = some (a, some b)) : ∃ p1 p2, f = "list" ∧ as = [.Call (.Name "range" p1) [a, b] [] p2] ∧ isBlt C "range" = true := by
  unfold rgArg at h
  split at h
  · split at h <;> cases h
  · split at h
    · rename_i hc
      simp only [Bool.and_eq_true, decide_eq_true_eq] at hc
      obtain ⟨h1, h2, h3⟩ := hc
      subst h2
      cases h
      exact ⟨_, _, h1, rfl, h3⟩
    · cases h
  · cases h
theorem rds_range {α : Al} {H : Hp} (lo hi : Int) : RDs α H (rangeL lo hi) (rgV lo hi) := by
  unfold rangeL rgV
  generalize (hi - lo).toNat = n
  induction n with
  | zero => exact .nil
  | succ n ih =>
    rw [List.range_succ, List.map_append, List.map_append]
    exact ih.append (.cons (.int _) .nil)
theorem len_range (lo hi : Int) : (rangeL lo hi).length = (hi - lo).toNat := by
  unfold rangeL
  rw [List.length_map, List.length_range]
theorem se_lrg1 (G : Good P w K mg base k C E X) (TO : TabOk T) {mk : Bool} (hm : mg "list" = none) (hg : isGlo C "list" = true) (hm2 : mg "range" = none) (hg2 : isGlo C "range" = true) (ha : PE X e (tF K T E A)) (s1 : Syn e) :
    PE X (.Call (.Name "list" p) [.Call (.Name "range" p1) [e] [] p2] [] pos) (tF K T E fun ρ => do lstRg mk (← A ρ)) := by
  obtain ⟨g1, g2, g3⟩ := G.glo hg
  obtain ⟨r1, r2, r3⟩ := G.glo hg2
  refine (pe_listRg G.calm g1 (by rw [G.gl]; exact hm) (prg_1 r1 (by rw [G.gl]; exact hm2) ha (s1.star _ _)) rfl).sub fun σ H Q h => ?_
  refine one_then (f := fun x _ => lstRg mk x) h fun v H1 α1 h1 l ρ er S r o => ?_
  cases r <;> first
    | exact False.elim o
    | skip
  rename_i j
  have o : Out K T E α1 H1 ((if rngOk j then newL mk (rangeL 0 j) else M.stuck : M D) h1) Q := o
  split at o
  · rename_i hr
    obtain ⟨q1, q2⟩ := rng_ok hr
    have := size_big
    exact ⟨j, rfl, ⟨by omega, by omega, by omega, by omega, by omega⟩, fun q hq => out_newL TO o S (rds_range 0 j) (by rw [len_range]; omega) q hq⟩
  · exact False.elim o
theorem se_lrg2 (G : Good P w K mg base k C E X) (TO : TabOk T) {mk : Bool} (hm : mg "list" = none) (hg : isGlo C "list" = true) (hm2 : mg "range" = none) (hg2 : isGlo C "range" = true) (ha : PE X a (tF K T E A)) (s1 : Syn a) (hb : PE X b (tF K T E B)) (s2 : Syn b) :
    PE X (.Call (.Name "list" p) [.Call (.Name "range" p1) [a, b] [] p2] [] pos) (tF K T E fun ρ => do lstRg2 mk (← A ρ) (← B ρ)) := by
  obtain ⟨g1, g2, g3⟩ := G.glo hg
  obtain ⟨r1, r2, r3⟩ := G.glo hg2
  refine (pe_listRg G.calm g1 (by rw [G.gl]; exact hm) (prg_2 r1 (by rw [G.gl]; exact hm2) ha hb (s1.star _ _) (s2.star _ _) (by rw [s2.star] <;> rfl)) rfl).sub fun σ H Q h => ?_
  refine one_then (f := fun x ρ => do lstRg2 mk x (← B ρ)) h fun v H1 α1 h1 l ρ er S r o => ?_
  refine ⟨α1, ρ, h1, er, S, (OutG.bind (Rel := RD) o).imp fun y H2 ⟨α2, h2, d2, ex2, S2, r2, o2⟩ => ?_⟩
  cases r with
  | int i =>
    cases r2 with
    | int j =>
      have o : Out K T E α2 H2 ((if rngOk i && rngOk j then newL mk (rangeL i j) else M.stuck : M D) h2) Q := o2
      split at o
      · rename_i hr
        obtain ⟨hr1, hr2⟩ := Bool.and_eq_true_iff.mp hr
        obtain ⟨q1, q2⟩ := rng_ok hr1
        obtain ⟨q3, q4⟩ := rng_ok hr2
        have := size_big
        exact ⟨i, j, rfl, rfl, ⟨by omega, by omega, by omega, by omega, by omega⟩, fun q hq => out_newL TO o S2 (rds_range i j) (by rw [len_range]; omega) q hq⟩
      · exact False.elim o
    | _ => exact False.elim o2
  | _ => exact False.elim o2
theorem si_zip (G : Good P w K mg base k C E X) (TO : TabOk T) {f : Str} (hf : f = "zip") (hm : mg f = none) (hg : isGlo C f = true) (ha : PE X a (tF K T E A)) (s1 : Syn a) (hb : PE X b (tF K T E B)) (s2 : Syn b) :
    PI X (.Tuple elts kk tpos) (.Call (.Name f p) [a, b] [] pos) (tI K T E fun ρ => do zipM (← A ρ) (← B ρ)) := by
  subst hf
  obtain ⟨g1, g2, g3⟩ := G.glo hg
  refine (RZ.pi_zipA g1 (by rw [G.gl]; exact hm) (pa_cons ha (pa_cons hb pa_nil (s2.star _ _)) (s1.star _ _)) (s1.star _ _) (by rw [s2.star] <;> rfl)).sub fun σ H R h => ?_
  refine one_then (f := fun x ρ => do zipM x (← B ρ)) h fun v H1 α1 h1 l ρ er S r o => ?_
  refine ⟨α1, ρ, h1, er, S, (OutG.bind (Rel := RD) o).imp fun y H2 ⟨α2, h2, d2, ex2, S2, r2, o2⟩ => ?_⟩
  have r := r.mono ex2
  rw [G.fr]
  cases r with
  | @tup q1 l1 vs e1 n1 z1 rs1 =>
    cases r2 with
    | @tup q2 l2 ws e2 n2 z2 rs2 => exact ⟨q1, q2, vs, ws, rfl, .inr ⟨SqT.of e1, SqT.of e2, OutG.pure (Rel := RIt K T) o2 S2 (yf_zipT TO e1 n1 z1 rs1 e2 n2 rs2)⟩⟩
    | _ => exact False.elim o2
  | @lst q1 l1 vs e1 n1 z1 rs1 =>
    cases r2 with
    | @lst q2 l2 ws e2 n2 z2 rs2 => exact ⟨q1, q2, vs, ws, rfl, .inl ⟨SqL.of e1, SqL.of e2, OutG.pure (Rel := RIt K T) o2 S2 (yf_zipL TO e1 n1 z1 rs1 e2 n2 rs2)⟩⟩
    | _ => exact False.elim o2
  | _ => exact False.elim o2
end
end Cr
set_option Elab.async false
set_option linter.all false
set_option maxRecDepth 100000
set_option maxHeartbeats 1000000
/-! Targets, statements, loops. -/
namespace Cr
open PySem PySem.Spec PyProof.Rows L2
/-! ### targets -/
/-- a target's reading -/
def tGt (K : PySem.W.Frag) (T : Hp → Prop) (G : D → Env → M Env) : TG := fun v σ H Q => ∃ α ρ h d ρ', EnvR α H ρ σ ∧ Sim K T α h H ∧ RD α H d v ∧ G d ρ h = .ok ρ' h ∧ ∀ σ', EnvR α H ρ' σ' → Q σ' H
theorem _root_.L2.PG.sub {X : Cx} {e : Expr} {t u : TG} (h : PG X e t) (f : ∀ v σ H Q, u v σ H Q → t v σ H Q) : PG X e u := ⟨fun pins s σ H v x Q I r q => h.run pins s σ H v x Q I r (f v σ H Q q)⟩
theorem compG_name {C : CC} {x : Str} {p : Pos} {F : D → Env → M Env} (h : compG C (.Name x p) = some F) : locB C.raw x = true ∧ ∃ i, C.slot x = some i ∧ F = fun d ρ => pure (ρ.set i (some d)) := by
  have h : (if locB C.raw x then (C.slot x).map (fun i => fun d ρ => pure (ρ.set i (some d))) else none : Option (D → Env → M Env)) = some F := h
  split at h
  · rename_i hl
    obtain ⟨i, e1, e2⟩ := Option.map_eq_some_iff.mp h
    exact ⟨hl, i, e1, e2.symm⟩
  · cases h
theorem compG_tuple {C : CC} {ts : List Expr} {k : Nat} {p : Pos} {F : D → Env → M Env} (h : compG C (.Tuple ts k p) = some F) : ∃ is, ts.mapM (nameSlot C) = some is ∧
    F = fun d ρ => match d with | .tup l => if l.length = is.length then pure ((is.zip l).foldl (fun ρ p => ρ.set p.1 (some p.2)) ρ) else M.stuck | _ => M.stuck := by
  have h' : (do
    let is ← ts.mapM (nameSlot C)
    some fun d ρ => match d with
      | .tup l => if l.length = is.length then pure ((is.zip l).foldl (fun ρ p => ρ.set p.1 (some p.2)) ρ) else M.stuck
      | _ => M.stuck : Option (D → Env → M Env)) = some F := h
  cases e : ts.mapM (nameSlot C) with
  | none => rw [e] at h'; cases h'
  | some is =>
    rw [e] at h'
    cases h'
    exact ⟨is, rfl, rfl⟩
section
variable {P : Program} {w : World} {K : PySem.W.Frag} {mg : Str → Option Value} {base : Heap} {T : Hp → Prop} {Pg : Prog} {k : Nat} {C : CC} {E : XK} {X : Cx}
theorem sg_name (G : Good P w K mg base k C E X) {x : Str} {p : Pos} {F : D → Env → M Env} (h : compG C (.Name x p) = some F) : PG X (.Name x p) (tGt K T F) := by
  obtain ⟨hl, i, hs, rfl⟩ := compG_name h
  obtain ⟨h1, h2, h3⟩ := G.loc hl hs
  exact (pg_name G.nd h1 h2 h3).sub fun v σ H Q ⟨α, ρ, hh, d, ρ', er, S, r, e, q⟩ => by
    cases e
    exact q _ (er.set r)
theorem slots_of : ∀ {ts : List Expr} {is : List Nat}, ts.mapM (nameSlot C) = some is → ∀ (G : Good P w K mg base k C E X),
    PGs X ts (fun vs σ H Q => vs.length = is.length ∧ Q ((is.zip vs).foldl (fun σ p => σ.set p.1 (some p.2)) σ) H) ∧ (assignEach ts X.env).length = is.length ∧ (assignEach ts X.env).findIdx? (·.1) = none
  | [], is, h, G => by
    simp at h
    subst h
    refine ⟨⟨fun pins s σ H vs us Q I r q => ?_⟩, rfl, rfl⟩
    obtain ⟨q1, q2⟩ := q
    have : vs = [] := by simpa using q1
    subst this
    exact pgs_nil.run pins s σ H [] us Q I r ⟨rfl, q2⟩
  | t :: ts, is, h, G => by
    rw [List.mapM_cons] at h
    cases e1 : nameSlot C t with
    | none => rw [e1] at h; cases h
    | some i =>
      rw [e1] at h
      cases e2 : ts.mapM (nameSlot C) with
      | none => rw [e2] at h; cases h
      | some js =>
        rw [e2] at h
        cases h
        obtain ⟨h1, h2, h3⟩ := slots_of e2 G
        cases t <;> first
          | (cases e1; done)
          | skip
        rename_i x p
        have e1 : (if locB C.raw x then C.slot x else none) = some i := e1
        split at e1
        · rename_i hl
          obtain ⟨g1, g2, g3⟩ := G.loc hl e1
          refine ⟨⟨fun pins s σ H vs us Q I r q => ?_⟩, ?_, ?_⟩
          · have q0 := pgs_cons (pg_name (pos := p) G.nd g1 g2 g3) h1
            refine q0.run pins s σ H vs us Q I r ?_
            obtain ⟨q1, q2⟩ := q
            cases vs with
            | nil => cases q1
            | cons v vs => exact ⟨v, vs, rfl, by simpa using q1, q2⟩
          · show (assignEach ts X.env).length + 1 = _
            rw [h2] <;> rfl
          · show ((false, assign (.Name x p) X.env) :: assignEach ts X.env).findIdx? (·.1) = none
            rw [List.findIdx?_cons]
            simp [h3]
        · cases e1
theorem fold_env {α : Al} {H : Hp} : ∀ {is : List Nat} {l : List D} {vs : List V} {ρ : Env} {σ : L2.St}, RDs α H l vs → EnvR α H ρ σ →
    EnvR α H ((is.zip l).foldl (fun ρ p => ρ.set p.1 (some p.2)) ρ) ((is.zip vs).foldl (fun σ p => σ.set p.1 (some p.2)) σ)
  | [], _, _, _, _, _, er => er
  | _ :: _, _, _, _, _, .nil, er => er
  | i :: is, _, _, _, _, .cons r rs, er => fold_env (is := is) rs (er.set r)
theorem sg_tuple (G : Good P w K mg base k C E X) {ts : List Expr} {kk : Nat} {p : Pos} {F : D → Env → M Env} (h : compG C (.Tuple ts kk p) = some F) : PG X (.Tuple ts kk p) (tGt K T F) := by
  obtain ⟨is, h1, rfl⟩ := compG_tuple h
  obtain ⟨g1, g2, g3⟩ := slots_of h1 G
  refine (pg_tup G.calm g1 g2 g3).sub fun v σ H Q ⟨α, ρ, hh, d, ρ', er, S, r, e, q⟩ => ?_
  cases r with
  | @tup a l vs ea na la rs =>
    have e : (if l.length = is.length then pure ((is.zip l).foldl (fun ρ p => ρ.set p.1 (some p.2)) ρ) else M.stuck : M Env) hh = .ok ρ' hh := e
    split at e
    · rename_i hl
      cases e
      exact ⟨a, vs, rfl, SqT.of ea, by rw [← rs.length]; exact hl, by rw [← rs.length]; exact hl, q _ (fold_env rs er)⟩
    · cases e
  | _ => cases e
theorem sg_any (G : Good P w K mg base k C E X) {tg : Expr} {F : D → Env → M Env} (h : compG C tg = some F) : PG X tg (tGt K T F) := by
  cases tg <;> first
    | exact sg_name G h
    | exact sg_tuple G h
    | cases (show (none : Option (D → Env → M Env)) = some F from h)
/-- a target's store gives a new environment, and leaves the heap -/
theorem compG_keeps {tg : Expr} {F : D → Env → M Env} (h : compG C tg = some F) (d : D) (ρ : Env) (hh : AH) : (∃ ρ', F d ρ hh = .ok ρ' hh) ∨ F d ρ hh = .stuck := by
  cases tg <;> first
    | (obtain ⟨_, i, _, rfl⟩ := compG_name h; exact .inl ⟨_, rfl⟩)
    | (obtain ⟨is, _, rfl⟩ := compG_tuple h
       cases d <;> first
         | exact .inr rfl
         | skip
       rename_i l
       by_cases hl : l.length = is.length
       · exact .inl ⟨_, by show (if l.length = is.length then _ else M.stuck : M Env) hh = _; rw [if_pos hl]; rfl⟩
       · exact .inr (by show (if l.length = is.length then _ else M.stuck : M Env) hh = _; rw [if_neg hl]; rfl))
    | cases (show (none : Option (D → Env → M Env)) = some F from h)
end
/-! ### statements -/
def OutS (K : PySem.W.Frag) (T : Hp → Prop) (E : XK) (α : Al) (H : Hp) (r : RS) (Dn : Ends) : Prop := match r with
  | .next ρ' h' => ∀ α' H' σ', Ext α α' H H' → Sim K T α' h' H' → EnvR α' H' ρ' σ' → Dn.nx σ' H'
  | .brk ρ' h' => ∀ α' H' σ', Ext α α' H H' → Sim K T α' h' H' → EnvR α' H' ρ' σ' → Dn.bk σ' H'
  | .cont ρ' h' => ∀ α' H' σ', Ext α α' H H' → Sim K T α' h' H' → EnvR α' H' ρ' σ' → Dn.ct σ' H'
  | .ret d h' => ∀ α' H' v, Ext α α' H H' → Sim K T α' h' H' → RD α' H' d v → Dn.rt v H'
  | .exc c _ h' => ∀ α' H', Ext α α' H H' → Sim K T α' h' H' → E (.ref (He.ga K c)) none H'
  | .stuck => False
def tS (K : PySem.W.Frag) (T : Hp → Prop) (E : XK) (F : Env → AH → RS) : TS := fun Dn σ H => ∃ α ρ h, EnvR α H ρ σ ∧ Sim K T α h H ∧ OutS K T E α H (F ρ h) Dn
theorem _root_.L2.PS.sub {X : Cx} {e : Stmt} {t u : TS} (h : PS X e t) (f : ∀ D σ H, u D σ H → t D σ H) : PS X e u := ⟨fun pins s σ H D I q => h.run pins s σ H D I (f D σ H q)⟩
theorem _root_.L2.PSs.sub {X : Cx} {e : List Stmt} {t u : TS} (h : PSs X e t) (f : ∀ D σ H, u D σ H → t D σ H) : PSs X e u := ⟨fun pins s σ H D I q => h.run pins s σ H D I (f D σ H q)⟩
theorem _root_.L2.PS.pick {X : Cx} {e : Stmt} {u : TS} (f : ∀ D σ H, u D σ H → ∃ t, PS X e t ∧ t D σ H) : PS X e u := ⟨fun pins s σ H D I q => by
  obtain ⟨t, h, ht⟩ := f D σ H q
  exact h.run pins s σ H D I ht⟩
section
variable {P : Program} {w : World} {K : PySem.W.Frag} {mg : Str → Option Value} {base : Heap} {T : Hp → Prop} {Pg : Prog} {k : Nat} {C : CC} {E : XK} {X : Cx}
variable {α : Al} {H : Hp} {Dn : Ends} {a b e t : Expr} {es : List Expr} {pos p p2 tpos : Pos} {A B : Env → M D} {L : Env → M (List D)} {st : Stmt} {sts sts' : List Stmt}
theorem OutS.ext {α' : Al} {H' : Hp} {r : RS} (h : OutS K T E α H r Dn) (e : Ext α α' H H') : OutS K T E α' H' r Dn := by
  cases r with
  | next ρ' h' => exact fun α2 H2 σ2 e2 S r => h α2 H2 σ2 (e.trans e2) S r
  | brk ρ' h' => exact fun α2 H2 σ2 e2 S r => h α2 H2 σ2 (e.trans e2) S r
  | cont ρ' h' => exact fun α2 H2 σ2 e2 S r => h α2 H2 σ2 (e.trans e2) S r
  | ret d h' => exact fun α2 H2 v e2 S r => h α2 H2 v (e.trans e2) S r
  | exc c ρ' h' => exact fun α2 H2 e2 S => h α2 H2 (e.trans e2) S
  | stuck => exact h
theorem OutS.lift {β γ : Type} {Rel : Al → Hp → β → γ → Prop} {x : M β} {ρ : Env} {f : β → AH → RS} {h : AH} (o : OutS K T E α H (liftE x ρ f h) Dn) :
    OutG Rel K T E α H (x h) (fun v H1 => ∃ α1 h1 d, Ext α α1 H H1 ∧ Sim K T α1 h1 H1 ∧ Rel α1 H1 d v ∧ OutS K T E α1 H1 (f d h1) Dn) := by
  unfold liftE at o
  cases e : x h with
  | ok d h' =>
    rw [e] at o
    exact fun α' H' v ex S r => ⟨α', h', d, ex, S, r, OutS.ext o ex⟩
  | exc c h' => rw [e] at o; exact o
  | stuck => rw [e] at o; exact o
theorem ss_pass : PS X (.Pass pos) (tS K T E fun ρ h => .next ρ h) := ps_pass.sub fun D σ H ⟨α, ρ, h, er, S, o⟩ => o α H σ (.refl _ _) S er
theorem ss_retN : PS X (.Return none pos) (tS K T E fun _ h => .ret .non h) := ps_retN.sub fun D σ H ⟨α, ρ, h, er, S, o⟩ => o α H .non (.refl _ _) S .non
theorem ss_ret (ha : PE X e (tF K T E A)) : PS X (.Return (some e) pos) (tS K T E fun ρ => liftE (A ρ) ρ fun d h => .ret d h) :=
  (ps_ret ha).sub fun D σ H ⟨α, ρ, h, er, S, o⟩ => ⟨α, ρ, h, er, S, (OutS.lift (Rel := RD) o).imp fun v H1 ⟨α1, h1, d, ex, S1, r, o1⟩ => o1 α1 H1 v (.refl _ _) S1 r⟩
theorem noswap {tg : Option Expr} {l : Nat} {env : PySem.Env} (hn : isComp e = false) : swapsWith e tg l env = pure false := by
  cases e <;> first
    | rfl
    | cases hn
theorem ss_expr (ha : PE X e (tF K T E A)) (hn : isComp e = false) : PS X (.Expr e pos) (tS K T E fun ρ => liftE (A ρ) ρ fun _ h => .next ρ h) :=
  (ps_expr ha (noswap hn)).sub fun D σ H ⟨α, ρ, h, er, S, o⟩ => ⟨α, ρ, h, er, S, (OutS.lift (Rel := RD) o).imp fun v H1 ⟨α1, h1, d, ex, S1, r, o1⟩ => o1 α1 H1 σ (.refl _ _) S1 (er.mono ex)⟩
theorem sss_nil : PSs X [] (tS K T E fun ρ h => .next ρ h) := pss_nil.sub fun D σ H ⟨α, ρ, h, er, S, o⟩ => o α H σ (.refl _ _) S er
def seqS (A B : Env → AH → RS) : Env → AH → RS := fun ρ h => match A ρ h with
  | .next ρ' h' => B ρ' h'
  | x => x
theorem sss_cons {F G : Env → AH → RS} (h1 : PS X st (tS K T E F)) (h2 : PSs X sts (tS K T E G)) : PSs X (st :: sts) (tS K T E (seqS F G)) :=
  (pss_cons h1 h2).sub fun D σ H ⟨α, ρ, h, er, S, o⟩ => by
    refine ⟨α, ρ, h, er, S, ?_⟩
    unfold seqS at o
    cases e : F ρ h with
    | next ρ' h' =>
      rw [e] at o
      exact fun α' H' σ' ex S' er' => ⟨α', ρ', h', er', S', OutS.ext o ex⟩
    | ret d h' => rw [e] at o; exact o
    | brk ρ' h' => rw [e] at o; exact o
    | cont ρ' h' => rw [e] at o; exact o
    | exc c ρ' h' => rw [e] at o; exact o
    | stuck => rw [e] at o; exact o
theorem ss_if {GT : Env → M Bool} {F G : Env → AH → RS} (hc : PT X t (tFT K T E GT)) (h1 : PSs X sts (tS K T E F)) (h2 : PSs X sts' (tS K T E G)) : PS X (.If t sts sts' pos) (tS K T E fun ρ => liftE (GT ρ) ρ fun c h => if c then F ρ h else G ρ h) :=
  (ps_if hc h1 h2).sub fun D σ H ⟨α, ρ, h, er, S, o⟩ => ⟨α, ρ, h, er, S, (OutS.lift (Rel := RB) o).imp fun v H1 ⟨α1, h1, d, ex, S1, r, o1⟩ => by
    cases r
    cases v with
    | true => exact ⟨α1, ρ, h1, er.mono ex, S1, o1⟩
    | false => exact ⟨α1, ρ, h1, er.mono ex, S1, o1⟩⟩
/-- a target's store behind a value -/
theorem store_sub {F : D → Env → M Env} (keeps : ∀ d ρ hh, (∃ ρ', F d ρ hh = .ok ρ' hh) ∨ F d ρ hh = .stuck) {tg : Expr} {σ : L2.St} (h : tS K T E (fun ρ => liftE (do F (← A ρ) ρ) ρ fun ρ' h => .next ρ' h) Dn σ H) : tAsg (tF K T E A) (tGt K T F) Dn σ H := by
  obtain ⟨α, ρ, h, er, S, o⟩ := h
  refine ⟨α, ρ, h, er, S, ?_⟩
  unfold liftE at o
  dsimp only at o
  have e0 : (do F (← A ρ) ρ : M Env) h = M.bind (A ρ) (fun d => F d ρ) h := rfl
  rw [e0] at o
  unfold M.bind at o
  cases e : A ρ h with
  | ok d h1 =>
    rw [e] at o
    intro α1 H1 v ex S1 r
    rcases keeps d ρ h1 with ⟨ρ', e2⟩ | e2
    · simp only [e2] at o
      exact ⟨α1, ρ, h1, d, ρ', er.mono ex, S1, r, e2, fun σ' er' => o α1 H1 σ' ex S1 er'⟩
    · simp only [e2] at o
      exact False.elim o
  | exc c h1 => rw [e] at o; exact o
  | stuck => rw [e] at o; exact o
theorem ss_name (G : Good P w K mg base k C E X) {x : Str} {F : D → Env → M Env} (hF : compG C (.Name x p) = some F) (ha : PE X e (tF K T E A)) (hs : swapsWith e (some (.Name x p)) pos.line X.env = pure false) :
    PS X (.Assign [.Name x p] e pos) (tS K T E fun ρ => liftE (do F (← A ρ) ρ) ρ fun ρ' h => .next ρ' h) :=
  (ps_asg ha (sg_name (T := T) G hF) hs rfl rfl).sub fun D σ H h => store_sub (fun d ρ hh => compG_keeps hF d ρ hh) (tg := e) h
theorem ss_tup (G : Good P w K mg base k C E X) {ts : List Expr} {kk : Nat} {F : D → Env → M Env} (hF : compG C (.Tuple ts kk p) = some F) (ha : PE X e (tF K T E A)) (hw : swappedStores [.Tuple ts kk p] e X.env = pure none) :
    PS X (.Assign [.Tuple ts kk p] e pos) (tS K T E fun ρ => liftE (do F (← A ρ) ρ) ρ fun ρ' h => .next ρ' h) :=
  (ps_asg ha (sg_tuple (T := T) G hF) (by cases e <;> rfl) hw rfl).sub fun D σ H h => store_sub (fun d ρ hh => compG_keeps hF d ρ hh) (tg := e) h
theorem ss_sub (G : Good P w K mg base k C E X) (TO : TabOk T) {V0 : Env → M D} (hv : PE X e (tF K T E V0)) (ha : PE X a (tF K T E A)) (hb : PE X b (tF K T E B)) (sb : Syn b) :
    PS X (.Assign [.Subscript a b p] e pos) (tS K T E fun ρ => liftE (do let v ← V0 ρ; let x ← A ρ; let y ← B ρ; storeM x y v) ρ fun _ h => .next ρ h) :=
  (ps_asg hv (pg_sub ha hb (set_M (T := T) TO G.fr G.units) (fun v => sb.asg a p X.env v)) (by cases e <;> rfl) rfl rfl).sub fun D σ H ⟨α, ρ, h, er, S, o⟩ => by
    have o1 := OutS.lift (Rel := RU) o
    refine ⟨α, ρ, h, er, S, (OutG.bind (Rel := RD) o1).imp fun v H1 ⟨α1, h1, d1, ex1, S1, r1, o2⟩ => ?_⟩
    refine ⟨α1, ρ, h1, er.mono ex1, S1, (OutG.bind (Rel := RD) o2).imp fun x H2 ⟨α2, h2, d2, ex2, S2, r2, o3⟩ => ?_⟩
    refine ⟨α2, ρ, h2, (er.mono ex1).mono ex2, S2, (OutG.bind (Rel := RD) o3).imp fun y H3 ⟨α3, h3, d3, ex3, S3, r3, o4⟩ => ?_⟩
    refine ⟨α3, h3, d2, d3, d1, E, S3, r2.mono ex3, r3, (r1.mono ex2).mono ex3, o4.imp fun _ H4 ⟨α4, h4, _, ex4, S4, _, o5⟩ => ?_⟩
    exact o5 α4 H4 σ (.refl _ _) S4 (er.mono ex4)
end
end Cr
set_option Elab.async false
set_option linter.all false
set_option maxRecDepth 100000
set_option maxHeartbeats 1000000
/-! More statements: fields, parallel stores, raise, loops. -/
namespace Cr
open PySem PySem.Spec PyProof.Rows L2
section
variable {P : Program} {w : World} {K : PySem.W.Frag} {mg : Str → Option Value} {base : Heap} {T : Hp → Prop} {Pg : Prog} {k : Nat} {C : CC} {E : XK} {X : Cx}
variable {α : Al} {H : Hp} {Dn : Ends} {a b e t tg : Expr} {es : List Expr} {pos p p2 tpos : Pos} {A B : Env → M D} {L : Env → M (List D)} {st : Stmt} {sts sts' : List Stmt}
theorem ss_fld (G : Good P w K mg base k C E X) (TO : TabOk T) (hf : FlOk K C.fl) {f : Str} {V0 : Env → M D} (hv : PE X e (tF K T E V0)) (ha : PE X a (tF K T E A)) :
    PS X (.Assign [.Attribute a f p] e pos) (tS K T E fun ρ => liftE (do let v ← V0 ρ; let x ← A ρ; setFldM C.fl x f v) ρ fun _ h => .next ρ h) :=
  (ps_fld ha hv (by cases e <;> rfl)).sub fun D σ H ⟨α, ρ, h, er, S, o⟩ => by
    have o1 := OutS.lift (Rel := RU) o
    refine ⟨α, ρ, h, er, S, (OutG.bind (Rel := RD) o1).imp fun v H1 ⟨α1, h1, d1, ex1, S1, r1, o2⟩ => ?_⟩
    refine ⟨α1, ρ, h1, er.mono ex1, S1, (OutG.bind (Rel := RD) o2).imp fun x H2 ⟨α2, h2, d2, ex2, S2, r2, o3⟩ => ?_⟩
    rw [G.fr]
    obtain ⟨q, c, dx, fs, e1, e2, e3, e4, e5, α4, h4, _, ex4, S4, _, o5⟩ := setFld_M TO hf S2 r2 (r1.mono ex2) o3
    exact ⟨q, c, dx, fs, e1, e2, e3, e4, e5, o5 α4 _ σ (.refl _ _) S4 (er.mono ex4)⟩
/-! ### a, b = x, y -/
theorem filt_all {β γ : Type} {f : β → Option γ} : ∀ {l : List β}, (l.filterMap f).length = l.length → ∀ x ∈ l, ∃ y, f x = some y
  | [], _, x, hx => by cases hx
  | b :: l, h, x, hx => by
    cases e : f b with
    | none =>
      rw [List.filterMap_cons_none e] at h
      have := List.length_filterMap_le f l
      simp at h
      omega
    | some y =>
      rw [List.filterMap_cons_some e] at h
      rcases List.mem_cons.mp hx with rfl | hx
      · exact ⟨y, e⟩
      · exact filt_all (by simpa using h) x hx
theorem names_eq (env : PySem.Env) (line : Nat) (ts : List Expr) : (ts.filterMap fun
    | .Name id pos => if env.kindOf id == some .local && pos.line == line then some id else none
    | _ => none) = ts.filterMap (locName env.scope line) := rfl
theorem star_eq (vs : List Expr) : (vs.any fun | .Starred .. => true | _ => false) = vs.any starB := rfl
theorem sw_of {env : PySem.Env} {ts vs : List Expr} {r : Option (List Str)} {k k2 : Nat} {p p2 : Pos} (hk : env.scope.kind = .function) (h : swP env.scope ts vs = some r) : swappedStores [.Tuple ts k p] (.Tuple vs k2 p2) env = pure r := by
  have hb : env.blockKind = .function := by unfold Env.blockKind; rw [hk]; rfl
  unfold swP at h
  unfold swappedStores
  simp only [hb, names_eq, star_eq]
  by_cases h1 : (!(ts.length == 2 || ts.length == 3) || vs.length != ts.length) = true
  · rw [if_pos h1] at h
    cases h
    simp only [h1, Bool.true_or, if_true]
  · rw [if_neg h1] at h
    simp only [h1, bne_self_eq_false, Bool.or_false, Bool.false_eq_true, if_false]
    show (if vs.any starB = true then pure none else if ((ts.filterMap (locName env.scope ((ts.head?.map (fun (x : Expr) => x.pos.line)).getD 0))).length != ts.length || (ts.filterMap (locName env.scope ((ts.head?.map (fun (x : Expr) => x.pos.line)).getD 0))).eraseDups.length != (ts.filterMap (locName env.scope ((ts.head?.map (fun (x : Expr) => x.pos.line)).getD 0))).length) = true then pure none else if vs.all (foldedForSure 8) = true then pure none else if vs.all (constantsAlone 8) = true then (do unsupported "assign.tuple-of-constant-expressions:order-of-the-stores"; pure (some (ts.filterMap (locName env.scope ((ts.head?.map (fun (x : Expr) => x.pos.line)).getD 0))))) else pure (some (ts.filterMap (locName env.scope ((ts.head?.map (fun (x : Expr) => x.pos.line)).getD 0))))) = pure r
    generalize ts.filterMap (locName env.scope ((ts.head?.map (fun (x : Expr) => x.pos.line)).getD 0)) = nm at h ⊢
    dsimp only at h
    by_cases h2 : vs.any starB = true
    · rw [if_pos h2] at h ⊢
      cases h; rfl
    · rw [if_neg h2] at h ⊢
      by_cases h3 : (nm.length != ts.length || nm.eraseDups.length != nm.length) = true
      · rw [if_pos h3] at h ⊢
        cases h; rfl
      · rw [if_neg h3] at h ⊢
        by_cases h4 : vs.all (foldedForSure 8) = true
        · rw [if_pos h4] at h ⊢
          cases h; rfl
        · rw [if_neg h4] at h ⊢
          by_cases h5 : vs.all (constantsAlone 8) = true
          · rw [if_pos h5] at h
            cases h
          · rw [if_neg h5] at h ⊢
            cases h; rfl
theorem locName_ok {sc : Scope} {line : Nat} {t : Expr} {x : Str} (h : locName sc line t = some x) : ∃ p, t = .Name x p ∧ sc.names.lookup x = some .local := by
  cases t <;> first
    | (cases h; done)
    | skip
  rename_i id p
  have h : (if (sc.names.lookup id == some .local && p.line == line) = true then some id else none) = some x := h
  split at h
  · rename_i hc
    cases h
    exact ⟨p, rfl, by simpa using (Bool.and_eq_true_iff.mp hc).1⟩
  · cases h
theorem swP_some {sc : Scope} {ts vs : List Expr} {nm : List Str} (h : swP sc ts vs = some (some nm)) : (ts.length = 2 ∨ ts.length = 3) ∧ vs.length = ts.length ∧ nm = ts.filterMap (locName sc ((ts.head?.map (fun (x : Expr) => x.pos.line)).getD 0)) ∧ nm.length = ts.length ∧ nm.eraseDups.length = nm.length := by
  unfold swP at h
  split at h
  · cases h
  rename_i h1
  split at h
  · cases h
  dsimp only at h
  split at h
  · cases h
  rename_i h3
  split at h
  · cases h
  split at h
  · cases h
  cases h
  simp only [Bool.or_eq_true, Bool.not_eq_true', bne_iff_ne, ne_eq, not_or, Bool.not_eq_false, beq_iff_eq, Classical.not_not] at h1 h3
  exact ⟨h1.1, h1.2, rfl, h3.1, h3.2⟩
theorem dups2 {x y : Str} (h : [x, y].eraseDups.length = 2) : x ≠ y := by
  intro e
  subst e
  have : [x, x].eraseDups = [x] := by simp [List.eraseDups_cons]
  rw [this] at h
  simp at h
theorem dups3 {x y z : Str} (h : [x, y, z].eraseDups.length = 3) : x ≠ y ∧ x ≠ z ∧ y ≠ z := by
  refine ⟨fun e => ?_, fun e => ?_, fun e => ?_⟩
  · subst e
    simp only [List.eraseDups_cons] at h
    by_cases hz : z = x
    · subst hz; simp at h
    · simp [hz] at h
      simp [List.eraseDups_cons] at h
  · subst e
    simp only [List.eraseDups_cons] at h
    by_cases hz : y = x
    · subst hz; simp at h
    · simp [hz] at h
      simp [List.eraseDups_cons] at h
  · subst e
    simp only [List.eraseDups_cons] at h
    by_cases hz : y = x
    · subst hz; simp at h
    · simp [hz] at h
      simp [List.eraseDups_cons] at h
theorem Good.slot_ne (G : Good P w K mg base k C E X) {x y : Str} {i j : Nat} (hx : X.N[i]? = some x) (hy : X.N[j]? = some y) (h : x ≠ y) : i ≠ j := fun e => by
  subst e
  rw [hx] at hy
  cases hy
  exact h rfl
theorem nameSlot_name {x : Str} {p : Pos} {i : Nat} (h : nameSlot C (.Name x p) = some i) : locB C.raw x = true ∧ C.slot x = some i := by
  have h : (if locB C.raw x then C.slot x else none) = some i := h
  split at h
  · exact ⟨by assumption, h⟩
  · cases h
/-- a, b = x, y with local names -/
theorem ss_par (G : Good P w K mg base k C E X) (hk : X.env.scope.kind = .function) {ts vs : List Expr} {kk k2 : Nat} {nm : List Str} {F : D → Env → M Env} (hF : compG C (.Tuple ts kk p) = some F) (hL : PA X vs (tFA K T E L)) (hw : swP C.sc ts vs = some (some nm)) :
    PS X (.Assign [.Tuple ts kk p] (.Tuple vs k2 p2) pos) (tS K T E fun ρ => liftE (do F (← tupM (← L ρ)) ρ) ρ fun ρ' h => .next ρ' h) := by
  obtain ⟨h1, h2, h3, h4, h5⟩ := swP_some hw
  have sw : swappedStores [.Tuple ts kk p] (.Tuple vs k2 p2) X.env = pure (some nm) := sw_of hk (by rw [G.sc]; exact hw)
  obtain ⟨is, m1, rfl⟩ := compG_tuple hF
  -- the list behind the arguments
  have sub : ∀ {Dn : Ends} {σ : L2.St} {H : Hp}, tS K T E (fun ρ => liftE (do (fun d ρ => match d with | .tup l => if l.length = is.length then pure ((is.zip l).foldl (fun ρ p => ρ.set p.1 (some p.2)) ρ) else M.stuck | _ => M.stuck : D → Env → M Env) (← tupM (← L ρ)) ρ) ρ fun ρ' h => .next ρ' h) Dn σ H →
      tFA K T E L σ H fun vs' H1 => vs'.length = is.length ∧ Dn.nx ((is.zip vs').foldl (fun σ p => σ.set p.1 (some p.2)) σ) H1 := fun {Dn σ H} ⟨α, ρ, h, er, S, o⟩ => by
    refine ⟨α, ρ, h, er, S, ?_⟩
    unfold liftE at o
    dsimp only at o
    have e0 : ∀ f : D → M Env, (do f (← tupM (← L ρ)) : M Env) h = M.bind (L ρ) (fun l => M.bind (tupM l) f) h := fun f => rfl
    rw [e0] at o
    unfold M.bind at o
    cases e : L ρ h with
    | stuck => rw [e] at o; exact o
    | exc c h1 => rw [e] at o; exact o
    | ok l g1 =>
      rw [e] at o
      intro α1 H1 v ex S1 r
      unfold tupM at o
      dsimp only at o
      by_cases hl : l.length ≤ most
      · rw [if_pos hl] at o
        dsimp only [M.pure, Pure.pure] at o
        by_cases hl2 : l.length = is.length
        · simp only [hl2, if_true] at o
          exact ⟨by rw [← r.length]; exact hl2, o α1 H1 _ ex S1 (fold_env r (er.mono ex))⟩
        · simp only [hl2, if_false] at o
          exact False.elim o
      · rw [if_neg hl] at o
        exact False.elim o
  have hmem : ∀ t ∈ ts, ∃ x q, t = .Name x q ∧ C.sc.names.lookup x = some .local ∧ locName C.sc ((ts.head?.map (fun (x : Expr) => x.pos.line)).getD 0) t = some x := fun t ht => by
    obtain ⟨x, hx⟩ := filt_all (by rw [← h3]; exact h4) t ht
    obtain ⟨q, e1, e2⟩ := locName_ok hx
    exact ⟨x, q, e1, e2, hx⟩
  rcases h1 with h1 | h1
  · match ts, vs, h1, h2 with
    | [t1, t2], [a, b], _, _ =>
      obtain ⟨x, px, rfl, lx, ex⟩ := hmem t1 (by simp)
      obtain ⟨y, py, rfl, ly, ey⟩ := hmem t2 (by simp)
      rw [List.mapM_cons, List.mapM_cons] at m1
      cases e1 : nameSlot C (.Name x px) with
      | none => rw [e1] at m1; cases m1
      | some i =>
        cases e2 : nameSlot C (.Name y py) with
        | none => rw [e1, e2] at m1; cases m1
        | some j =>
          rw [e1, e2] at m1
          have m1 : some [i, j] = some is := m1
          cases m1
          obtain ⟨b1, b2⟩ := nameSlot_name e1
          obtain ⟨c1, c2⟩ := nameSlot_name e2
          have g1 := (G.loc b1 b2).1
          have g2 := (G.loc c1 c2).1
          have enm : nm = [x, y] := by rw [h3, List.filterMap_cons_some ex, List.filterMap_cons_some ey]; rfl
          subst enm
          have hne := dups2 h5
          refine (ps_par G.calm G.nd g1 g2 (G.slot_ne g1 g2 hne) (by rw [G.sc]; exact lx) (by rw [G.sc]; exact ly) hL sw (by rfl)).sub fun D σ H h => ?_
          obtain ⟨α, ρ, hh, er, S, o⟩ := sub h
          refine ⟨α, ρ, hh, er, S, o.imp fun vs' H1 ⟨q1, q2⟩ => ?_⟩
          match vs', q1 with
          | [v, w], _ => exact ⟨v, w, rfl, q2⟩
  · match ts, vs, h1, h2 with
    | [t1, t2, t3], [a, b, c], _, _ =>
      obtain ⟨x, px, rfl, lx, ex⟩ := hmem t1 (by simp)
      obtain ⟨y, py, rfl, ly, ey⟩ := hmem t2 (by simp)
      obtain ⟨z, pz, rfl, lz, ez⟩ := hmem t3 (by simp)
      rw [List.mapM_cons, List.mapM_cons, List.mapM_cons] at m1
      cases e1 : nameSlot C (.Name x px) with
      | none => rw [e1] at m1; cases m1
      | some i =>
        cases e2 : nameSlot C (.Name y py) with
        | none => rw [e1, e2] at m1; cases m1
        | some j =>
          cases e3 : nameSlot C (.Name z pz) with
          | none => rw [e1, e2, e3] at m1; cases m1
          | some l =>
            rw [e1, e2, e3] at m1
            have m1 : some [i, j, l] = some is := m1
            cases m1
            obtain ⟨b1, b2⟩ := nameSlot_name e1
            obtain ⟨c1, c2⟩ := nameSlot_name e2
            obtain ⟨d1, d2⟩ := nameSlot_name e3
            have g1 := (G.loc b1 b2).1
            have g2 := (G.loc c1 c2).1
            have g3 := (G.loc d1 d2).1
            have enm : nm = [x, y, z] := by rw [h3, List.filterMap_cons_some ex, List.filterMap_cons_some ey, List.filterMap_cons_some ez]; rfl
            subst enm
            obtain ⟨n1, n2, n3⟩ := dups3 h5
            refine (ps_par3 G.calm G.nd g1 g2 g3 (G.slot_ne g1 g2 n1) (G.slot_ne g1 g3 n2) (G.slot_ne g2 g3 n3) (by rw [G.sc]; exact lx) (by rw [G.sc]; exact ly) (by rw [G.sc]; exact lz) hL sw (by rfl)).sub fun D σ H h => ?_
            obtain ⟨α, ρ, hh, er, S, o⟩ := sub h
            refine ⟨α, ρ, hh, er, S, o.imp fun vs' H1 ⟨q1, q2⟩ => ?_⟩
            match vs', q1 with
            | [v, w, u], _ => exact ⟨v, w, u, rfl, q2⟩
end
end Cr
set_option Elab.async false
set_option linter.all false
set_option maxRecDepth 100000
set_option maxHeartbeats 1000000
/-! raise, for, while. -/
namespace Cr
open PySem PySem.Spec PyProof.Rows L2
section
variable {P : Program} {w : World} {K : PySem.W.Frag} {mg : Str → Option Value} {base : Heap} {T : Hp → Prop} {Pg : Prog} {k : Nat} {C : CC} {E : XK} {X : Cx}
variable {α : Al} {H : Hp} {Dn : Ends} {a b e t tg iter : Expr} {es : List Expr} {pos p p2 p3 tpos : Pos} {A B : Env → M D} {L : Env → M (List D)} {st : Stmt} {sts sts' : List Stmt}
theorem ss_raise (G : Good P w K mg base k C E X) (Y : Fx K mg T Pg) {x m : Str} {j : Nat} (hx : Pg.gk x = .exc) (hg : isGlo C x = true) : PS X (.Raise (some (.Call (.Name x p) [.Constant (.str m) j p2] [] p3)) none pos) (tS K T E fun ρ h => .exc x ρ h) := by
  obtain ⟨c1, c2, c3, c4, c5⟩ := Y.exc x hx
  obtain ⟨g1, g2, g3⟩ := G.glo hg
  obtain ⟨pr, wo, fr, gl, bs, na, sc, nd, calm, room, tk, po, fnl, kd⟩ := G
  subst pr wo fr gl bs
  exact (L2N.ps_raise calm tk (L2N.pmk_own PySem.F.excBase_ValueError c2 c1 c3 (raises_own c4 c5) g1 g2)).sub fun D σ H ⟨α, ρ, h, er, S, o⟩ => o α H (.refl _ _) S
theorem drop_cons {β : Type} {l : List β} {i : Nat} {d : β} (h : l[i]? = some d) : l.drop i = d :: l.drop (i + 1) := by
  obtain ⟨h1, h2⟩ := List.getElem?_eq_some_iff.mp h
  rw [List.drop_eq_getElem_cons h1, h2]
/-- a turn's body, with its store -/
abbrev turnS (F : D → Env → M Env) (S : Env → AH → RS) : D → Env → AH → RS := fun d ρ => liftE (F d ρ) ρ fun ρ' h => S ρ' h
/-- the end of a turn -/
theorem turn_sub {F : D → Env → M Env} {S0 : Env → AH → RS} (keeps : ∀ d ρ hh, (∃ ρ', F d ρ hh = .ok ρ' hh) ∨ F d ρ hh = .stuck) {d : D} {ρ : Env} {h : AH} {x : V} {H' : Hp} {σ : L2.St} {rest : Env → AH → RS} {N : L2.St → Hp → Prop}
    (er : EnvR α H' ρ σ) (S : Sim K T α h H') (r : RD α H' d x)
    (o : OutS K T E α H' (match turnS F S0 d ρ h with | .next ρ' h' => rest ρ' h' | .cont ρ' h' => rest ρ' h' | .brk ρ' h' => .next ρ' h' | x => x) Dn)
    (hN : ∀ α2 H2 σ2 ρ2 h2, Ext α α2 H' H2 → Sim K T α2 h2 H2 → EnvR α2 H2 ρ2 σ2 → OutS K T E α2 H2 (rest ρ2 h2) Dn → N σ2 H2) :
    tGt K T F x σ H' fun σ2 H2 => tS K T E S0 { Dn with nx := N, ct := N, bk := Dn.nx } σ2 H2 := by
  rcases keeps d ρ h with ⟨ρ', e⟩ | e
  · have e2 : turnS F S0 d ρ h = S0 ρ' h := by
      simp only [turnS, liftE, e]
    rw [e2] at o
    refine ⟨α, ρ, h, d, ρ', er, S, r, e, fun σ' er' => ⟨α, ρ', h, er', S, ?_⟩⟩
    cases q : S0 ρ' h with
    | next ρ2 h2 =>
      rw [q] at o
      exact fun α2 H2 σ2 ex S2 er2 => hN α2 H2 σ2 ρ2 h2 ex S2 er2 (OutS.ext o ex)
    | cont ρ2 h2 =>
      rw [q] at o
      exact fun α2 H2 σ2 ex S2 er2 => hN α2 H2 σ2 ρ2 h2 ex S2 er2 (OutS.ext o ex)
    | brk ρ2 h2 => rw [q] at o; exact o
    | ret d h2 => rw [q] at o; exact o
    | exc c ρ2 h2 => rw [q] at o; exact o
    | stuck => rw [q] at o; exact o
  · have e2 : turnS F S0 d ρ h = .stuck := by
      simp only [turnS, liftE, e]
    rw [e2] at o
    exact False.elim o
theorem for_fix {F : D → Env → M Env} {S0 : Env → AH → RS} (keeps : ∀ d ρ hh, (∃ ρ', F d ρ hh = .ok ρ' hh) ∨ F d ρ hh = .stuck) {l : List D} {J : It} (Y : Yf K T α H l J) {ρ : Env} {h : AH} {σ : L2.St} (er : EnvR α H ρ σ) (S : Sim K T α h H)
    (o : OutS K T E α H (forFix (turnS F S0) l ρ h) Dn) :
    ∃ W : Nat → Nat → L2.St → Hp → Prop, (∃ m, W 0 m σ H) ∧ ∀ i m σ H, W i m σ H → (J.stop i H ∧ Dn.nx σ H) ∨ (J.go i H ∧ ∃ N : L2.St → Hp → Prop, (∀ σ' H', N σ' H' → ∃ m', m' < m ∧ W (i + 1) m' σ' H') ∧ ∀ x H', J.yld i H x H' →
      tGt K T F x σ H' fun σ2 H2 => tS K T E S0 { Dn with nx := N, ct := N, bk := Dn.nx } σ2 H2) := by
  refine ⟨fun i m σ H1 => ∃ α1 ρ1 h1, EnvR α1 H1 ρ1 σ ∧ Sim K T α1 h1 H1 ∧ Ext α α1 H H1 ∧ m = l.length - i ∧ i ≤ l.length ∧ OutS K T E α1 H1 (forFix (turnS F S0) (l.drop i) ρ1 h1) Dn, ⟨_, α, ρ, h, er, S, .refl _ _, rfl, Nat.zero_le _, o⟩, ?_⟩
  rintro i m σ1 H1 ⟨α1, ρ1, h1, er1, S1, ex1, rfl, hi, o1⟩
  by_cases hlt : i < l.length
  · obtain ⟨d, hd⟩ : ∃ d, l[i]? = some d := ⟨l[i], by simp [hlt]⟩
    obtain ⟨go, yl⟩ := Y.go i d hd α1 h1 H1 ex1.toExt0 S1
    refine .inr ⟨go, fun σ' H' => ∃ α2 ρ2 h2, EnvR α2 H' ρ2 σ' ∧ Sim K T α2 h2 H' ∧ Ext α α2 H H' ∧ OutS K T E α2 H' (forFix (turnS F S0) (l.drop (i + 1)) ρ2 h2) Dn,
      fun σ' H' ⟨α2, ρ2, h2, q1, q2, q3, q4⟩ => ⟨l.length - (i + 1), by omega, α2, ρ2, h2, q1, q2, q3, rfl, hlt, q4⟩, fun x H' y => ?_⟩
    obtain ⟨ex2, S2, r⟩ := yl x H' y
    rw [drop_cons hd] at o1
    have o2 := OutS.ext o1 ex2
    exact turn_sub keeps (er1.mono ex2) S2 r o2 fun α2 H2 σ2 ρ2 h2 ex3 S3 er3 o3 => ⟨α2, ρ2, h2, er3, S3, (ex1.trans ex2).trans ex3, o3⟩
  · have e : i = l.length := by omega
    subst e
    rw [List.drop_length] at o1
    exact .inl ⟨Y.stop α1 h1 H1 ex1.toExt0 S1, o1 α1 H1 σ1 (.refl _ _) S1 er1⟩
theorem for_cur {F : D → Env → M Env} {S0 : Env → AH → RS} (keeps : ∀ d ρ hh, (∃ ρ', F d ρ hh = .ok ρ' hh) ∨ F d ρ hh = .stuck) {n : Nat} {q : Addr} (en : α.l[n]? = some q) {ρ : Env} {h : AH} {σ : L2.St} {f : Nat} (er : EnvR α H ρ σ) (S : Sim K T α h H)
    (o : OutS K T E α H (forCur (turnS F S0) n f 0 ρ h) Dn) :
    ∃ W : Nat → Nat → L2.St → Hp → Prop, (∃ m, W 0 m σ H) ∧ ∀ i m σ H, W i m σ H → ((Itl K q).stop i H ∧ Dn.nx σ H) ∨ ((Itl K q).go i H ∧ ∃ N : L2.St → Hp → Prop, (∀ σ' H', N σ' H' → ∃ m', m' < m ∧ W (i + 1) m' σ' H') ∧ ∀ x H', (Itl K q).yld i H x H' →
      tGt K T F x σ H' fun σ2 H2 => tS K T E S0 { Dn with nx := N, ct := N, bk := Dn.nx } σ2 H2) := by
  refine ⟨fun i m σ H1 => ∃ α1 ρ1 h1, EnvR α1 H1 ρ1 σ ∧ Sim K T α1 h1 H1 ∧ Ext α α1 H H1 ∧ OutS K T E α1 H1 (forCur (turnS F S0) n m i ρ1 h1) Dn, ⟨f, α, ρ, h, er, S, .refl _ _, o⟩, ?_⟩
  rintro i m σ1 H1 ⟨α1, ρ1, h1, er1, S1, ex1, o1⟩
  cases m with
  | zero => exact False.elim o1
  | succ m =>
    have en1 := ex1.pre _ _ en
    obtain ⟨c, hc, cr⟩ := S1.has en1
    unfold forCur at o1
    rw [hc] at o1
    cases c with
    | dct lk kvs => exact False.elim o1
    | ins c fs => exact False.elim o1
    | lst l =>
      obtain ⟨vs, e1, rs, z⟩ := cr
      dsimp only at o1
      cases hd : l[i]? with
      | none =>
        rw [hd] at o1
        have hi : l.length ≤ i := List.getElem?_eq_none_iff.mp hd
        exact .inl ⟨⟨vs, SqL.of e1, by rw [← rs.length]; exact hi⟩, o1 α1 H1 σ1 (.refl _ _) S1 er1⟩
      | some d =>
        rw [hd] at o1
        obtain ⟨v, ev, rv⟩ := rs.get hd
        refine .inr ⟨⟨vs, v, SqL.of e1, ev⟩, fun σ' H' => ∃ α2 ρ2 h2, EnvR α2 H' ρ2 σ' ∧ Sim K T α2 h2 H' ∧ Ext α α2 H H' ∧ OutS K T E α2 H' (forCur (turnS F S0) n m (i + 1) ρ2 h2) Dn,
          fun σ' H' ⟨α2, ρ2, h2, q1, q2, q3, q4⟩ => ⟨m, by omega, α2, ρ2, h2, q1, q2, q3, q4⟩, fun x H' y => ?_⟩
        obtain ⟨rfl, y⟩ := y
        have ey := y vs (SqL.of e1)
        rw [ev] at ey
        cases ey
        exact turn_sub keeps er1 S1 rv o1 fun α2 H2 σ2 ρ2 h2 ex3 S3 er3 o3 => ⟨α2, ρ2, h2, er3, S3, ex1.trans ex3, o3⟩
theorem ss_for (G : Good P w K mg base k C E X) {F : D → Env → M Env} {S0 : Env → AH → RS} {I0 : Env → M ItK} (hF : compG C tg = some F) (hi : PI X tg iter (tI K T E I0)) (hb : PSs X sts (tS K T E S0)) (si : ∀ x, foldedSetIterable iter X.env x = pure x) :
    PS X (.For tg iter sts [] pos) (tS K T E fun ρ => liftE (I0 ρ) ρ fun it h => loopOf (turnS F S0) it ρ h) :=
  (ps_for G.po G.calm hi (sg_any (T := T) G hF) hb si).sub fun D σ H ⟨α, ρ, h, er, S, o⟩ => by
    refine ⟨α, ρ, h, er, S, (OutS.lift (Rel := RIt K T) o).imp fun J H1 ⟨α1, h1, it, ex, S1, r, o1⟩ => ?_⟩
    have keeps := fun d ρ hh => compG_keeps hF d ρ hh
    cases it with
    | fix l => exact for_fix keeps r (er.mono ex) S1 o1
    | cur n =>
      obtain ⟨q, en, rfl⟩ := r
      exact for_cur keeps en (er.mono ex) S1 o1
theorem ss_while (G : Good P w K mg base k C E X) {GT : Env → M Bool} {S0 : Env → AH → RS} {f : Nat} (hc : PT X t (tFT K T E GT)) (hb : PSs X sts (tS K T E S0)) : PS X (.While t sts [] pos) (tS K T E fun ρ => whileM GT S0 f ρ) :=
  (ps_while G.po hc hb).sub fun D σ H ⟨α, ρ, h, er, S, o⟩ => by
    refine ⟨fun m σ H => ∃ α ρ h, EnvR α H ρ σ ∧ Sim K T α h H ∧ OutS K T E α H (whileM GT S0 m ρ h) D, ⟨f, α, ρ, h, er, S, o⟩, ?_⟩
    rintro m σ1 H1 ⟨α1, ρ1, h1, er1, S1, o1⟩
    cases m with
    | zero => exact False.elim o1
    | succ m =>
      unfold whileM at o1
      refine ⟨α1, ρ1, h1, er1, S1, ?_⟩
      cases e : GT ρ1 h1 with
      | stuck => rw [e] at o1; exact o1
      | exc c h2 => rw [e] at o1; exact o1
      | ok b h2 =>
        rw [e] at o1
        intro α2 H2 v ex S2 r
        cases r
        cases b with
        | false => exact o1 α2 H2 σ1 ex S2 (er1.mono ex)
        | true =>
          have o2 := OutS.ext o1 ex
          refine ⟨fun σ' H' => ∃ α ρ h, EnvR α H' ρ σ' ∧ Sim K T α h H' ∧ OutS K T E α H' (whileM GT S0 m ρ h) D, fun σ' H' ⟨a1, a2, a3, a4, a5, a6⟩ => ⟨m, Nat.lt_succ_self _, a1, a2, a3, a4, a5, a6⟩, α2, ρ1, h2, er1.mono ex, S2, ?_⟩
          dsimp only at o2
          cases q : S0 ρ1 h2 with
          | next ρ2 h3 =>
            rw [q] at o2
            exact fun α3 H3 σ3 ex3 S3 er3 => ⟨α3, ρ2, h3, er3, S3, OutS.ext o2 ex3⟩
          | cont ρ2 h3 =>
            rw [q] at o2
            exact fun α3 H3 σ3 ex3 S3 er3 => ⟨α3, ρ2, h3, er3, S3, OutS.ext o2 ex3⟩
          | brk ρ2 h3 => rw [q] at o2; exact o2
          | ret d h3 => rw [q] at o2; exact o2
          | exc c ρ2 h3 => rw [q] at o2; exact o2
          | stuck => rw [q] at o2; exact o2
end
end Cr
set_option Elab.async false
set_option linter.all false
set_option maxRecDepth 100000
set_option maxHeartbeats 1000000
/-! enumerate over a tuple. -/
namespace Cr
open PySem PySem.Spec PyProof.Rows L2
theorem enum_new1 {v : Value} {o : Obj} {H : Heap → Prop} (B : Begins v o H) :
    Meets (Builtin.«enumerate.__new__» ⟨[.type "enumerate", v], []⟩) (fun _ R s => H s.heap ∧ R (.ok (.ret (.ref (s.heap.push o).objs.size)))
      { s with heap := (s.heap.push o).push { cls := .type "enumerate", data := .fields #[.none, .bool false, .ref s.heap.objs.size, rawInt 0, .none, .none] } }) :=
  .of_wp fun prog w A R s h => by
    obtain ⟨hp, g, d, tk, os⟩ := s
    obtain ⟨h1, h⟩ := h
    have hsub := sub_enumerate
    have it1 : ∀ {A1 : Around} {E : Value → Shared → Prop} {Q : Value → Shared → Prop}, Q (.ref hp.objs.size) ⟨hp.push o, g, d, tk, os⟩ → wpAny (model prog w) A1 (pyIter v) Q E ⟨hp, g, d, tk, os⟩ := fun q => B.iter prog w _ _ ⟨hp, g, d, tk, os⟩ _ h1 q
    wp_walk using it1
    refine wpAny_stack_any fun st => wpAny_pure ?_
    split
    · rename_i c _ _ _ _ _
      cases (c == Value.type "enumerate") <;> (wp_walk using it1; exact ⟨_, rfl, h⟩)
    · wp_walk using it1; exact ⟨_, rfl, h⟩
/-- enumerate(v): two new objects -/
theorem enum_call1 {prog : Program} {w : World} {A : Around} {E : Value → Shared → Prop} {s : Shared} {v : Value} {o : Obj} {H : Heap → Prop} {Q : Value → Shared → Prop} (B : Begins v o H) (h1 : H s.heap)
    (h : ∀ h', IsEnum h' (s.heap.objs.size + 1) s.heap.objs.size 0 .none → h'.get? s.heap.objs.size = some o → h'.objs.size = s.heap.objs.size + 2 →
      (∀ b o, s.heap.get? b = some o → h'.get? b = some o) → Q (.ref (s.heap.objs.size + 1)) { s with heap := h' }) : wpAny (model prog w) A (call (.type "enumerate") [v]) Q E s := by
  refine callType_new F.called_enumerate (by decide) (F.typeCall_enumerate_1 _) (F.newCall_enumerate_1 _) (fun obj => F.args_object_init_2 obj _) F.entry_enumerate_new (enum_new1 B) ⟨h1, ?_⟩
  have hz : (s.heap.push o).objs.size = s.heap.objs.size + 1 := Heap.size_push ..
  show _ ∧ _
  rw [hz]
  have he : IsEnum ((s.heap.push o).push { cls := .type "enumerate", data := .fields #[.none, .bool false, .ref s.heap.objs.size, rawInt 0, .none, .none] }) (s.heap.objs.size + 1) s.heap.objs.size 0 .none := by
    have q := Heap.get?_push_size (s.heap.push o) (o := { cls := .type "enumerate", data := .fields #[.none, .bool false, .ref s.heap.objs.size, rawInt 0, .none, .none] }) rfl
    rw [hz] at q
    exact q
  exact ⟨⟨_, he, rfl⟩, h _ he (Heap.get?_push_of_some _ (Heap.get?_push_size _ B.free)) (by rw [Heap.size_push, hz]) fun b o x => Heap.get?_push_of_some _ (Heap.get?_push_of_some _ x)⟩
/-- the tuple at a, each item in a new pair -/
def IteT (K : PySem.W.Frag) (a : Addr) : It :=
  ⟨fun i H => ∃ (xs : List V) (x : V), SqT K H a xs ∧ xs[i]? = some x, fun i H v H' => ∃ T x, v = .ref T ∧ H T = none ∧ H' = upd H T (.tup [.int (i : Nat), x]) ∧ ∀ xs, SqT K H a xs → xs[i]? = some x, fun i H => ∃ xs : List V, SqT K H a xs ∧ xs.length = i⟩
theorem turn_enumT {P : Program} {w : World} {K : PySem.W.Frag} {elts : List Expr} {kk : Nat} {tpos : Pos} (a e it : Addr) (ha : a ≠ it) (hea : e ≠ a) :
    Turn P w K (.Tuple elts kk tpos) (IteT K a) [e, it] e (fun i h => (∃ old, IsEnum h e it ((i : Nat) : Int) old) ∧ h.IsTupleIter it a i ∧ e ≠ it) where
  mem := by simp
  obj := fun i h st b hb => by
    obtain ⟨⟨old, he⟩, ⟨o, ho, hc, hd⟩, _⟩ := st
    have e' : b = e ∨ b = it := by simpa using hb
    rcases e' with z | z
    · rw [z]; exact ⟨_, he, fun v q => nomatch q⟩
    · rw [z]; exact ⟨o, ho, fun v q => by rw [hd] at q; cases q⟩
  keep := fun i h h' st k => let ⟨⟨old, he⟩, hi, hne⟩ := st; ⟨⟨old, k e (by simp) _ he⟩, hi.at fun o q => k it (by simp) o q, hne⟩
  item := by
    intro X hP hw hK hc i pins s σ H E I hf st hg
    subst hP hw hK
    obtain ⟨⟨old, he⟩, hit, hne⟩ := st
    obtain ⟨xs, x, hq, hx⟩ := hg
    obtain ⟨its, rv, p, hz⟩ := I.tuple hq
    obtain ⟨u, hu, ru⟩ := rv.get hx
    have hel : e < s.heap.objs.size := Heap.lt_size he
    have hil : it < s.heap.objs.size := by obtain ⟨_, q, _⟩ := hit; exact Heap.lt_size q
    have hlt : i < its.toArray.size := by
      obtain ⟨z, _⟩ := List.getElem?_eq_some_iff.mp hu
      simpa using z
    refine wpAny_pyNext_enum_itemC (Draws.tuple (A := X.A.in1) (I.ok.hd hc) it a ha its.toArray) he ⟨hit, p⟩ hlt hne (by simp [hne, hea]) fun u' h' tk hu' ho hit' hT hsz hk => ?_
    have eu : u' = u := by
      have z : its.toArray[i]? = some u := by simpa using hu
      rw [z] at hu'
      exact (Option.some.inj hu').symm
    subst eu
    refine ⟨_, rfl, wpAny_letOwnedTupleGo_enum (s := { s with heap := h', toks := tk + 1 }) ho fun h'' he' sb => ?_⟩
    have hT2 : h''.get? s.heap.objs.size = some { cls := .type "tuple", data := .seq #[.int i tk, u'] } := (sb.2 _ (Nat.ne_of_gt hel)).trans hT
    have new : ObjOk X.prog X.w (upd H s.heap.objs.size (.tup [.int (i : Nat), x])) h'' s.heap.objs.size (.tup [.int (i : Nat), x]) := ⟨by show 2 ≤ sizeLine; decide, [.int i tk, u'], .cons ⟨_, rfl⟩ (.cons ru .nil), ⟨_, hT2, rfl, _, rfl⟩⟩
    have I1 : Inv X pins σ (upd H s.heap.objs.size (.tup [.int (i : Nat), x])) { s with heap := h'', toks := tk + 1 } :=
      I.turnedNew (ch := [e, it]) (fun b ob hb q => (sb.2 b (fun z => hb (by simp [z]))).trans (hk b ob (fun z => hb (by simp [z])) (fun z => hb (by simp [z])) q)) hf (Nat.le_refl _) new
    refine ⟨.ref s.heap.objs.size, _, I1, rfl, ⟨_, x, rfl, I.hok.fresh (Nat.le_refl _), rfl, fun ys hy => by rw [I.tuple_inj hy hq]; exact hx⟩, ⟨⟨u', ?_⟩, hit'.1.at fun o q => (sb.2 it (Ne.symm hne)).trans q, hne⟩, fun b hb => ?_⟩
    · rw [show ((i + 1 : Nat) : Int) = (i : Int) + 1 by omega]; exact he'
    · have hb' : b < s.heap.objs.size := by
        have e' : b = e ∨ b = it := by simpa using hb
        rcases e' with z | z
        · rw [z]; exact hel
        · rw [z]; exact hil
      rw [upd_ne (Nat.ne_of_lt hb')]
      exact (hf b hb).1
  done := by
    intro X hP hw hK hc i pins s σ H E I hf st hg
    subst hP hw hK
    obtain ⟨⟨old, he⟩, hit, hne⟩ := st
    obtain ⟨xs, hq, hx⟩ := hg
    obtain ⟨its, rv, p, hz⟩ := I.tuple hq
    obtain ⟨f0, f1, f2, f3, f4, f5⟩ := hf it (by simp)
    have hl := rv.length
    have z : i = its.toArray.size := by simp; omega
    exact wpAny_pyNext_enum_endD (Draws.tuple (A := X.A.in1) (I.ok.hd hc) it a ha its.toArray) he (z ▸ ⟨hit, p⟩) fun h' eb => ⟨rfl, I.turned (t' := s.toks) (fun b o hb q => eb b o hb q) f0 f1 f3 f4 f5⟩
  self := fun A i s Q E st h => let ⟨⟨_, he⟩, _⟩ := st; wpAny_pyIter_enum he h
def iEnumA (K : PySem.W.Frag) (ta : TA) : TI := fun σ H R => ta σ H fun vs H1 => ∃ a xs, vs = [.ref a] ∧ ((SqL K H1 a xs ∧ R (Ite K a) H1) ∨ (SqT K H1 a xs ∧ R (IteT K a) H1))
theorem pi_enumA {X : Cx} {e : Expr} {ta : TA} {p pos tpos : Pos} {elts : List Expr} {kk : Nat} (hg : Gl X "enumerate") (hm : X.mg "enumerate" = none) (ha : PA X [e] ta) (hs : starEach [e] X.env = [(false, eval e X.env)] := by rfl) :
    PI X (.Tuple elts kk tpos) (.Call (.Name "enumerate" p) [e] [] pos) (iEnumA X.K ta) := by
  refine ⟨fun pins s σ H R I h => Call_ (ld_blt I hg hm boot_enumerate (PyProof.Rows.callWith_type1 (thn (ha.run pos pins s σ H _ I h) fun us s1 ⟨vs, H1, I1, r1, q1⟩ => ?_) hs rfl))⟩
  obtain ⟨a, xs, ex, q1⟩ := q1
  subst ex
  cases r1 with
  | cons r rr =>
    cases rr
    cases r
    have fr2 : ∀ b, b ∈ [s1.heap.objs.size + 1, s1.heap.objs.size] → FpOk X pins H1 b := fun b hb => by
      have e' : b = s1.heap.objs.size + 1 ∨ b = s1.heap.objs.size := by simpa using hb
      have hle : s1.heap.objs.size ≤ b := by omega
      exact I1.fpOk hle (I1.hok.fresh hle)
    rcases q1 with ⟨hq, q⟩ | ⟨hq, q⟩
    · obtain ⟨its, rv, p', hz⟩ := I1.list hq
      refine call_enumerate_list p'.isList fun h' he hit hsz hk => wpAny_pyIter_enum he ?_
      have I2 : Inv X pins σ H1 { s1 with heap := h' } := I1.kept (t' := s1.toks) hk
      exact ⟨_, [s1.heap.objs.size + 1, s1.heap.objs.size], _, _, H1, rfl, I2, turn_enum a (s1.heap.objs.size + 1) s1.heap.objs.size, ⟨⟨.none, he⟩, hit, Nat.succ_ne_self _⟩, fr2, q⟩
    · obtain ⟨its, rv, p', hz⟩ := I1.tuple hq
      have alt : a < s1.heap.objs.size := by
        obtain ⟨o, ho, _⟩ := id p'
        exact Heap.lt_size ho
      refine enum_call1 (begins_tuple a its.toArray) p' fun h' he hit hsz hk => wpAny_pyIter_enum he ?_
      have I2 : Inv X pins σ H1 { s1 with heap := h' } := I1.kept (t' := s1.toks) hk
      exact ⟨_, [s1.heap.objs.size + 1, s1.heap.objs.size], _, _, H1, rfl, I2, turn_enumT a (s1.heap.objs.size + 1) s1.heap.objs.size (Nat.ne_of_lt alt) (Nat.ne_of_gt (Nat.lt_succ_of_lt alt)), ⟨⟨.none, he⟩, ⟨_, hit, rfl, rfl⟩, Nat.succ_ne_self _⟩, fr2, q⟩
section
variable {K : PySem.W.Frag} {T : Hp → Prop} {α : Al} {H : Hp}
theorem yf_enumT (TO : TabOk T) {a : Addr} {l : List D} {vs : List V} (e : H a = some (.tup vs)) (na : a ∉ α) (hl : l.length ≤ sizeLine) (r : RDs α H l vs) : Yf K T α H (enumL 0 l) (IteT K a) := by
  refine ⟨by rw [enumL_length]; exact hl, fun i d hd α' h' H' ex S => ?_, fun α' h' H' ex S => ?_⟩
  · obtain ⟨z, h1, rfl⟩ := enumL_get hd
    obtain ⟨v, e1, r1⟩ := r.get h1
    have sq : SqT K H' a vs := SqT.of (ex.at e na (fun _ z => by cases z))
    refine ⟨⟨vs, v, sq, e1⟩, fun x H'' y => ?_⟩
    obtain ⟨q, w, rfl, hq, rfl, y⟩ := y
    have q1 := y vs sq
    rw [e1] at q1
    cases q1
    rw [Nat.zero_add]
    exact pair_new (TO := TO) S hq (.int _) (r1.mono0 ex)
  · exact ⟨vs, SqT.of (ex.at e na (fun _ z => by cases z)), by rw [enumL_length, r.length]⟩
end
section
variable {P : Program} {w : World} {K : PySem.W.Frag} {mg : Str → Option Value} {base : Heap} {T : Hp → Prop} {Pg : Prog} {k : Nat} {C : CC} {E : XK} {X : Cx}
variable {a b e tg : Expr} {es : List Expr} {pos p p2 tpos : Pos} {A B : Env → M D} {L : Env → M (List D)} {elts : List Expr} {kk : Nat}
theorem si_enum (G : Good P w K mg base k C E X) (TO : TabOk T) {f : Str} (hf : f = "enumerate") (hm : mg f = none) (hg : isGlo C f = true) (ha : PE X e (tF K T E A)) (s1 : Syn e) :
    PI X (.Tuple elts kk tpos) (.Call (.Name f p) [e] [] pos) (tI K T E fun ρ => do enumM (← A ρ)) := by
  subst hf
  obtain ⟨g1, g2, g3⟩ := G.glo hg
  refine (pi_enumA g1 (by rw [G.gl]; exact hm) (pa_cons ha pa_nil (s1.star _ _)) (by rw [s1.star] <;> rfl)).sub fun σ H R h => ?_
  refine one_then (f := fun x _ => enumM x) h fun v H1 α1 h1 l ρ er S r o => ?_
  rw [G.fr]
  cases r with
  | @tup q1 l1 vs e1 n1 z1 rs1 => exact ⟨q1, vs, rfl, .inr ⟨SqT.of e1, OutG.pure (Rel := RIt K T) o S (yf_enumT TO e1 n1 z1 rs1)⟩⟩
  | @lst q1 l1 vs e1 n1 z1 rs1 => exact ⟨q1, vs, rfl, .inl ⟨SqL.of e1, OutG.pure (Rel := RIt K T) o S (yf_enum TO e1 n1 z1 rs1)⟩⟩
  | _ => exact False.elim o
end
end Cr
set_option Elab.async false
set_option linter.all false
set_option maxRecDepth 100000
set_option maxHeartbeats 1000000
/-! Comprehensions. -/
namespace Cr
open PySem PySem.Spec PyProof.Rows L2
theorem wipe_get (σ : L2.St) : ∀ (vs : List Nat) (j : Nat), (wipe σ vs)[j]? = if j ∈ vs then (if j < σ.length then some none else none) else σ[j]?
  | [], j => by simp [wipe]
  | v :: vs, j => by
    unfold wipe
    by_cases h : v = j
    · subst h
      rw [if_pos List.mem_cons_self]
      by_cases hl : v < σ.length
      · rw [if_pos hl, List.getElem?_set_self (by rw [wipe_length]; exact hl)]
      · rw [if_neg hl]
        exact List.getElem?_eq_none (by rw [List.length_set, wipe_length]; omega)
    · rw [List.getElem?_set_ne h, wipe_get σ vs j]
      have e : (j ∈ v :: vs) = (j ∈ vs) := by
        simp only [List.mem_cons, eq_iff_iff]
        exact ⟨fun q => q.resolve_left fun z => h z.symm, .inr⟩
      simp only [e]
theorem wipe_wipe (σ : L2.St) (vs : List Nat) : wipe (wipe σ vs) vs = wipe σ vs := by
  apply List.ext_getElem?
  intro j
  rw [wipe_get (wipe σ vs), wipe_get σ, wipe_length]
  by_cases h : j ∈ vs <;> simp [h]
theorem wipe_set {σ : L2.St} {vs : List Nat} {i : Nat} {x : Option V} (hi : i ∈ vs) : wipe (σ.set i x) vs = wipe σ vs := by
  apply List.ext_getElem?
  intro j
  rw [wipe_get, wipe_get, List.length_set]
  by_cases h : j ∈ vs
  · simp [h]
  · simp only [h, if_false]
    exact List.getElem?_set_ne fun z => h (by rw [← z]; exact hi)
theorem wipe_fold {vs : List Nat} : ∀ {is : List Nat} {l : List V} {σ : L2.St}, (∀ i ∈ is, i ∈ vs) → wipe ((is.zip l).foldl (fun σ p => σ.set p.1 (some p.2)) σ) vs = wipe σ vs
  | [], _, _, _ => rfl
  | _ :: _, [], _, _ => rfl
  | i :: is, x :: l, σ, h => (wipe_fold (is := is) (l := l) (σ := σ.set i (some x)) fun j hj => h j (List.mem_cons_of_mem _ hj)).trans (wipe_set (h i List.mem_cons_self))
/-- a target's reading, with what it leaves of the names -/
def tGw (K : PySem.W.Frag) (T : Hp → Prop) (G : D → Env → M Env) (is : List Nat) : TG := fun v σ H Q => ∃ α ρ h d ρ', EnvR α H ρ σ ∧ Sim K T α h H ∧ RD α H d v ∧ G d ρ h = .ok ρ' h ∧
  ∀ σ', EnvR α H ρ' σ' → (∀ vs : List Nat, (∀ i ∈ is, i ∈ vs) → wipe σ' vs = wipe σ vs) → Q σ' H
section
variable {P : Program} {w : World} {K : PySem.W.Frag} {mg : Str → Option Value} {base : Heap} {T : Hp → Prop} {Pg : Prog} {k : Nat} {C : CC} {E : XK} {X : Cx}
theorem sgw_name (G : Good P w K mg base k C E X) {x : Str} {p : Pos} {F : D → Env → M Env} (h : compG C (.Name x p) = some F) : PG X (.Name x p) (tGw K T F (slotsG C (.Name x p))) := by
  obtain ⟨hl, i, hs, rfl⟩ := compG_name h
  obtain ⟨h1, h2, h3⟩ := G.loc hl hs
  have e0 : slotsG C (.Name x p) = [i] := by
    show (if locB C.raw x then C.slot x else none).toList = _
    rw [if_pos hl, hs]
    rfl
  rw [e0]
  exact (pg_name G.nd h1 h2 h3).sub fun v σ H Q ⟨α, ρ, hh, d, ρ', er, S, r, e, q⟩ => by
    cases e
    exact q _ (er.set r) fun vs hv => wipe_set (hv i (by simp))
theorem sgw_tuple (G : Good P w K mg base k C E X) {ts : List Expr} {kk : Nat} {p : Pos} {F : D → Env → M Env} (h : compG C (.Tuple ts kk p) = some F) : PG X (.Tuple ts kk p) (tGw K T F (slotsG C (.Tuple ts kk p))) := by
  obtain ⟨is, h1, rfl⟩ := compG_tuple h
  obtain ⟨g1, g2, g3⟩ := slots_of h1 G
  have e0 : slotsG C (.Tuple ts kk p) = is := by
    show (ts.mapM (nameSlot C)).getD [] = _
    rw [h1]
    rfl
  rw [e0]
  refine (pg_tup G.calm g1 g2 g3).sub fun v σ H Q ⟨α, ρ, hh, d, ρ', er, S, r, e, q⟩ => ?_
  cases r with
  | @tup a l vs ea na la rs =>
    have e : (if l.length = is.length then pure ((is.zip l).foldl (fun ρ p => ρ.set p.1 (some p.2)) ρ) else M.stuck : M Env) hh = .ok ρ' hh := e
    split at e
    · rename_i hl
      cases e
      exact ⟨a, vs, rfl, SqT.of ea, by rw [← rs.length]; exact hl, by rw [← rs.length]; exact hl, q _ (fold_env rs er) fun ws hw => wipe_fold hw⟩
    · cases e
  | _ => cases e
theorem sgw_any (G : Good P w K mg base k C E X) {tg : Expr} {F : D → Env → M Env} (h : compG C tg = some F) : PG X tg (tGw K T F (slotsG C tg)) := by
  cases tg <;> first
    | exact sgw_name G h
    | exact sgw_tuple G h
    | cases (show (none : Option (D → Env → M Env)) = some F from h)
abbrev noX : XK := fun _ _ _ => False
/-- the context of a comprehension's block -/
theorem Good.blk (G : Good P w K mg base k C E X) {scope : Scope} (ks : scope.kind = .function) (s : Shared) (H : Hp) (a : Addr) (cl : List (Str × Addr)) (fp : List Addr) :
    Good P w K mg base k (blkCC C scope) noX (X.blk s H scope (compEnvC scope cl a X.env) fp) := by
  have hsc : (compEnvC scope cl a X.env).scope = relSc scope C.sc := by
    rw [← G.sc]
    rfl
  refine ⟨G.pr, G.wo, G.fr, G.gl, G.bs, G.na, hsc, G.nd, G.calm, G.room, ?_, ?_, fun x hx => ?_, ks⟩
  · rintro u s' ⟨a, B, sI, pins, σ, H, cls, d, e, I, nb, up, sky, na, os, ag, w⟩
    exact w
  · show PassesOwn (model X.prog X.w) X.A (compEnvC scope cl a X.env) (fun _ _ => False)
    intro e s z
    exact False.elim z
  · have hx : locB scope x = true := hx
    have key : ∀ q, scope.names.lookup x = some q → q ≠ .free → (relSc scope C.sc).names.lookup x = some q := fun q h1 h2 => lookup_relS_keep h2 h1
    unfold locB at hx
    show locB (relSc scope C.sc) x = true ∧ ((scope.names.lookup x == some NameKind.cell) = true ∨ (compEnvC scope cl a X.env).scope.names.lookup x = some .local)
    rw [hsc]
    split at hx
    · rename_i e
      have e2 := key _ e (by decide)
      refine ⟨by unfold locB; rw [e2], .inr e2⟩
    · rename_i e
      have e2 := key _ e (by decide)
      refine ⟨by unfold locB; rw [e2], .inl (by rw [e]; rfl)⟩
    · cases hx
end
/-! ### the heap with a list being made -/
section
variable {K : PySem.W.Frag} {T : Hp → Prop} {α α1 α2 : Al} {H H1 H2 H' : Hp} {D0 : Addr} {h h1 h2 : AH}
theorem Ext.hide0 (e : Ext α α1 H1 H') (hD : H1 D0 = none) : Ext0 α (α1.hide D0) H1 H' where
  pre := e.pre
  kk := e.kk
  keep := e.keep
  new := fun a ha => by
    rcases ha with ha | ha
    · exact e.new a (.inl ha)
    · rcases List.mem_cons.mp ha with rfl | ha
      · exact .inr fun o z => by rw [hD] at z; cases z
      · exact e.new a (.inr ha)
theorem Ext.hideTrans (e : Ext α α1 H1 H') (hD : H1 D0 = none) (f : Ext (α1.hide D0) α2 H' H2) : α2 = (⟨α2.l, α.hid, α.K⟩ : Al).hide D0 ∧ Ext α ⟨α2.l, α.hid, α.K⟩ H1 H2 := by
  have g := (e.hide0 hD).trans f.toExt0
  have ek : α2.K = α.K := g.kk
  have eh : α2.hid = D0 :: α.hid := by rw [f.hid]; show D0 :: α1.hid = _; rw [e.hid]
  refine ⟨by cases α2; cases eh; cases ek; rfl, ⟨g.pre, g.keep, fun a ha => g.new a ?_, rfl⟩, rfl, fun a ha => ?_⟩
  · rcases ha with ha | ha
    · exact .inl ha
    · exact .inr (by rw [eh]; exact List.mem_cons_of_mem _ ha)
  · exact (f.hold a (by show a ∈ D0 :: α1.hid; rw [e.hid]; exact List.mem_cons_of_mem _ ha)).trans (e.hold a ha)
theorem Ext.grow (e : Ext α α1 H1 H') (S : Sim K T α h H1) (hD : H1 D0 = none) {o : HO} : Ext α α1 H1 (upd H' D0 o) := by
  refine ⟨⟨e.pre, fun a u q ha ht => ?_, e.new, e.kk⟩, e.hid, fun a ha => ?_⟩
  · rw [upd_ne (ne_of_none q hD)]
    exact e.keep a u q ha ht
  · obtain ⟨u, q⟩ := (S.hd a ha).2
    rw [upd_ne (ne_of_none q hD)]
    exact e.hold a ha
theorem hide_mem : D0 ∈ α.hide D0 := .inr List.mem_cons_self
theorem Sim.grow (TO : TabOk T) (S : Sim K T (α.hide D0) h H) {vs ws : List V} (e : H D0 = some (.lst vs)) : Sim K T (α.hide D0) h (L2.upd H D0 (.lst ws)) where
  len := S.len
  nd := S.nd
  cell := fun n a c e1 e2 => (S.cell n a c e1 e2).mono (.write hide_mem) (upd_ne fun z => (S.hd D0 List.mem_cons_self).1 (by rw [← z]; exact List.mem_of_getElem? e1))
  tab := TO.upd H D0 _ S.tab (fun ps z => by rw [e] at z; cases z) (fun ps z => by rw [e] at z; cases z)
  hd := fun a ha => ⟨(S.hd a ha).1, by
    by_cases z : a = D0
    · rw [z]; exact ⟨_, upd_same⟩
    · rw [upd_ne z]; exact (S.hd a ha).2⟩
  kf := S.kf
theorem Sim.start (TO : TabOk T) (S : Sim K T α h H1) (hD : H1 D0 = none) : Sim K T (α.hide D0) h (L2.upd H1 D0 (.lst [])) where
  len := S.len
  nd := S.nd
  cell := fun n a c e1 e2 => (S.cell n a c e1 e2).mono ((S.fresh hD).hide0 hD) (upd_ne fun z => S.free hD (by rw [← z]; exact Al.mem e1))
  tab := TO.upd H1 D0 _ S.tab (fun ps z => by rw [hD] at z; cases z) (fun ps z => by rw [hD] at z; cases z)
  hd := fun a ha => by
    rcases List.mem_cons.mp ha with rfl | ha
    · exact ⟨fun z => S.free hD (.inl z), _, upd_same⟩
    · obtain ⟨q1, u, q2⟩ := S.hd a ha
      exact ⟨q1, u, by rw [upd_ne (ne_of_none q2 hD)]; exact q2⟩
  kf := S.kf
theorem Ext0.unhide : Ext0 (α.hide D0) α H H := ⟨fun _ _ h => h, fun _ _ h _ _ => h, fun a h => by
  rcases h with h | h
  · exact .inl (.inl h)
  · exact .inl (.inr (List.mem_cons_of_mem _ h)), rfl⟩
theorem Ext0.show : Ext0 (α.hide D0) (α.snoc D0) H H := ⟨fun n a h => by
    have h : α.l[n]? = some a := h
    show (α.l ++ [D0])[n]? = _
    rw [List.getElem?_append_left (List.getElem?_eq_some_iff.mp h).1]; exact h, fun _ _ h _ _ => h, fun a h => by
  rcases h with h | h
  · rcases List.mem_append.mp h with h | h
    · exact .inl (.inl h)
    · have e : a = D0 := by simpa using h
      exact .inl (by rw [e]; exact hide_mem)
  · exact .inl (.inr (List.mem_cons_of_mem _ h)), rfl⟩
theorem Sim.unhide (S : Sim K T (α.hide D0) h H) : Sim K T α h H :=
  ⟨S.len, S.nd, fun n a c e1 e2 => (S.cell n a c e1 e2).mono .unhide rfl, S.tab, fun a ha => S.hd a (List.mem_cons_of_mem _ ha), S.kf⟩
theorem Sim.shown (S : Sim K T (α.hide D0) h H) {l : List D} {vs : List V} (e : H D0 = some (.lst vs)) (r : RDs (α.hide D0) H l vs) (hl : l.length ≤ sizeLine) (hD : D0 ∉ α.hid) : Sim K T (α.snoc D0) (h ++ [.lst l]) H where
  len := by
    have q : α.l.length = h.length := S.len
    simp [q, Al.snoc]
  nd := by
    show (α.l ++ [D0]).Nodup
    rw [List.nodup_append]
    exact ⟨S.nd, by simp, fun a ha b hb z => by
      have e : b = D0 := by simpa using hb
      exact (S.hd D0 List.mem_cons_self).1 (by rw [← e, ← z]; exact ha)⟩
  cell := fun n a c' e1 e2 => by
    have e1 : (α.l ++ [D0])[n]? = some a := e1
    have sl : α.l.length = h.length := S.len
    by_cases hn : n < α.l.length
    · rw [List.getElem?_append_left hn] at e1
      rw [List.getElem?_append_left (by rw [← sl]; exact hn)] at e2
      exact (S.cell n a c' e1 e2).mono .show rfl
    · rw [List.getElem?_append_right (by omega)] at e1
      rw [List.getElem?_append_right (by rw [← sl]; omega)] at e2
      have hn' : n - α.l.length = 0 := by
        cases q : n - α.l.length with
        | zero => rfl
        | succ m => rw [q] at e1; simp at e1
      rw [hn'] at e1
      have hn2 : n - h.length = 0 := by rw [← sl]; exact hn'
      rw [hn2] at e2
      simp at e1 e2
      subst e1 e2
      exact ⟨vs, e, r.mono0 .show, hl⟩
  tab := S.tab
  hd := fun a ha => by
    obtain ⟨q, u⟩ := S.hd a (List.mem_cons_of_mem _ ha)
    refine ⟨fun z => ?_, u⟩
    rcases List.mem_append.mp z with z | z
    · exact q z
    · have z : a = D0 := by simpa using z
      exact hD (z ▸ ha)
  kf := S.kf
end
/-! ### turns -/
section
variable {K : PySem.W.Frag} {T : Hp → Prop} {E : XK} {α : Al} {h : AH} {H H1 : Hp} {D0 : Addr} {ρ : Env} {σ : L2.St} {F : D → Env → M Env} {TT : Env → M Bool} {EE : Env → M D} {is vs : List Nat}
theorem lc_turn (keeps : ∀ d ρ hh, (∃ ρ', F d ρ hh = .ok ρ' hh) ∨ F d ρ hh = .stuck) {d : D} {x : V} {ρw : Env} (er : EnvR α H ρw (wipe σ vs)) (S : Sim K T α h H) (r : RD α H d x) (sub : ∀ i ∈ is, i ∈ vs) {xo : Option D} {h' : AH}
    (e : turnC F TT EE ρw d h = .ok xo h') {N : Hp → Prop} (hn : ∀ α' H', Ext α α' H H' → Sim K T α' h' H' → xo = none → N H')
    (hs : ∀ α' H' y dy, Ext α α' H H' → Sim K T α' h' H' → xo = some dy → RD α' H' dy y → ∃ acc, H' D0 = some (.lst acc) ∧ acc.length < sizeLine ∧ N (upd H' D0 (.lst (acc ++ [y])))) :
    tGw K T F is x (wipe σ vs) H fun σ2 H2 => wipe σ2 vs = wipe σ vs ∧ tFT K T noX TT σ2 H2 fun b H3 =>
      if b = true then tF K T noX EE σ2 H3 fun y H4 => ∃ acc, H4 D0 = some (.lst acc) ∧ acc.length < sizeLine ∧ N (upd H4 D0 (.lst (acc ++ [y]))) else N H3 := by
  have e : M.bind (F d ρw) (fun ρ' => M.bind (TT ρ') fun b => if b then M.bind (EE ρ') (fun x => M.pure (some x)) else M.pure none) h = .ok xo h' := e
  unfold M.bind at e
  rcases keeps d ρw h with ⟨ρ', e1⟩ | e1
  · rw [e1] at e
    dsimp only at e
    refine ⟨α, ρw, h, d, ρ', er, S, r, e1, fun σ2 er2 hw => ⟨(hw vs sub).trans (wipe_wipe σ vs), α, ρ', h, er2, S, ?_⟩⟩
    cases e2 : TT ρ' h with
    | stuck => rw [e2] at e; cases e
    | exc c h2 => rw [e2] at e; cases e
    | ok b h2 =>
      rw [e2] at e
      intro α2 H2 b' ex2 S2 rb
      cases rb
      cases b with
      | false =>
        cases e
        exact hn α2 H2 ex2 S2 rfl
      | true =>
        dsimp only at e
        refine ⟨α2, ρ', h2, er2.mono ex2, S2, ?_⟩
        cases e3 : EE ρ' h2 with
        | stuck => simp only [if_true, e3] at e; cases e
        | exc c h3 => simp only [if_true, e3] at e; cases e
        | ok dy h3 =>
          simp only [if_true, e3] at e
          cases e
          intro α3 H3 y ex3 S3 ry
          exact hs α3 H3 y dy (ex2.trans ex3) S3 rfl ry
  · rw [e1] at e
    cases e
theorem compFix_cons {body : D → M (Option D)} {d : D} {r l : List D} {h h2 : AH} (e : compFix body (d :: r) h = .ok l h2) : ∃ xo h1 lr, body d h = .ok xo h1 ∧ compFix body r h1 = .ok lr h2 ∧ l = xo.toList ++ lr := by
  have e : M.bind (body d) (fun x => M.bind (compFix body r) fun l => M.pure (match x with | some y => y :: l | none => l)) h = .ok l h2 := e
  unfold M.bind at e
  cases e1 : body d h with
  | stuck => rw [e1] at e; cases e
  | exc c h1 => rw [e1] at e; cases e
  | ok xo h1 =>
    rw [e1] at e
    dsimp only at e
    cases e2 : compFix body r h1 with
    | stuck => rw [e2] at e; cases e
    | exc c h1 => rw [e2] at e; cases e
    | ok lr h3 =>
      rw [e2] at e
      cases e
      exact ⟨xo, h1, lr, rfl, e2, by cases xo <;> rfl⟩
/-- how a comprehension stands before a turn -/
def LcAt (K : PySem.W.Frag) (T : Hp → Prop) (α : Al) (H1 : Hp) (D0 : Addr) (i : Nat) (da : List D) (h' : AH) (H' : Hp) : Prop :=
  ∃ α1 acc, Ext α α1 H1 H' ∧ Sim K T (α1.hide D0) h' H' ∧ H' D0 = some (.lst acc) ∧ RDs (α1.hide D0) H' da acc ∧ da.length ≤ i
/-- a turn, from one stand to the next -/
theorem lc_next (TO : TabOk T) (keeps : ∀ d ρ hh, (∃ ρ', F d ρ hh = .ok ρ' hh) ∨ F d ρ hh = .stuck) (er : EnvR α H1 ρ σ) (S : Sim K T α h H1) (hD : H1 D0 = none) (sub : ∀ i ∈ is, i ∈ vs) {i : Nat} (hi : i < sizeLine) {α1 : Al} {acc : List V} {da : List D} {h' : AH} {H' H'' : Hp}
    (ex1 : Ext α α1 H1 H') (ex2 : Ext (α1.hide D0) (α1.hide D0) H' H'') (S2 : Sim K T (α1.hide D0) h' H'') (eD : H' D0 = some (.lst acc)) (rs : RDs (α1.hide D0) H' da acc) (hl : da.length ≤ i) {d : D} {x : V} (r : RD (α1.hide D0) H'' d x) {xo : Option D} {h2 : AH}
    (e : turnC F TT EE (wipeE ρ vs) d h' = .ok xo h2) {N : Hp → Prop} (hN : ∀ H3, LcAt K T α H1 D0 (i + 1) (da ++ xo.toList) h2 H3 → N H3) :
    tGw K T F is x (wipe σ vs) H'' fun σ2 H2 => wipe σ2 vs = wipe σ vs ∧ tFT K T noX TT σ2 H2 fun b H3 =>
      if b = true then tF K T noX EE σ2 H3 fun y H4 => ∃ acc, H4 D0 = some (.lst acc) ∧ acc.length < sizeLine ∧ N (upd H4 D0 (.lst (acc ++ [y]))) else N H3 := by
  have er2 : EnvR (α1.hide D0) H'' (wipeE ρ vs) (wipe σ vs) := ((er.mono0 (ex1.hide0 hD)).mono ex2).wipe vs
  refine lc_turn keeps er2 S2 r sub e (fun α3 H3 ex3 S3 z => hN H3 ?_) fun α3 H3 y dy ex3 S3 z ry => ?_
  · subst z
    have ex4 := ex2.trans ex3
    obtain ⟨q1, q2⟩ := ex1.hideTrans hD ex4
    rw [q1] at S3 ex4
    refine ⟨_, acc, q2, S3, (ex4.hold D0 List.mem_cons_self).trans eD, ?_, by simpa using Nat.le_succ_of_le hl⟩
    simpa using rs.mono ex4
  · subst z
    have ex4 := ex2.trans ex3
    obtain ⟨q1, q2⟩ := ex1.hideTrans hD ex4
    rw [q1] at S3 ex4 ry
    have eD3 : H3 D0 = some (.lst acc) := (ex4.hold D0 List.mem_cons_self).trans eD
    have len := rs.length
    refine ⟨acc, eD3, by omega, hN _ ⟨_, acc ++ [y], q2.grow S hD, S3.grow TO eD3, upd_same, ?_, by simp; omega⟩⟩
    have wr : Ext0 ((⟨α3.l, α.hid, α.K⟩ : Al).hide D0) ((⟨α3.l, α.hid, α.K⟩ : Al).hide D0) H3 (upd H3 D0 (.lst (acc ++ [y]))) := .write hide_mem
    exact ((rs.mono ex4).mono0 wr).append (.cons (ry.mono0 wr) .nil)
theorem lc_start (TO : TabOk T) (S : Sim K T α h H1) (hD : H1 D0 = none) : LcAt K T α H1 D0 0 [] h (upd H1 D0 (.lst [])) :=
  ⟨α, [], (Ext.refl α H1).grow S hD, S.start TO hD, upd_same, .nil, Nat.zero_le _⟩
theorem lc_fix (TO : TabOk T) (keeps : ∀ d ρ hh, (∃ ρ', F d ρ hh = .ok ρ' hh) ∨ F d ρ hh = .stuck) (er : EnvR α H1 ρ σ) (S : Sim K T α h H1) (hD : H1 D0 = none) (sub : ∀ i ∈ is, i ∈ vs) {l0 l : List D} {J : It} {h2 : AH} (Y : Yf K T α H1 l0 J)
    (e : compFix (turnC F TT EE (wipeE ρ vs)) l0 h = .ok l h2) {Q : Hp → Prop} (hQ : ∀ H' i, i ≤ sizeLine → LcAt K T α H1 D0 i l h2 H' → Q H') :
    ∃ W : Nat → Nat → Hp → Prop, (∃ m, W 0 m (upd H1 D0 (.lst []))) ∧ ∀ i m H, W i m H → (J.stop i H ∧ Q H) ∨ (J.go i H ∧ ∃ Nx : Hp → Prop, (∀ H', Nx H' → ∃ m', m' < m ∧ W (i + 1) m' H') ∧ ∀ x H', J.yld i H x H' →
      tGw K T F is x (wipe σ vs) H' fun σ2 H2 => wipe σ2 vs = wipe σ vs ∧ tFT K T noX TT σ2 H2 fun b H3 => if b = true then tF K T noX EE σ2 H3 fun y H4 => ∃ acc, H4 D0 = some (.lst acc) ∧ acc.length < sizeLine ∧ Nx (upd H4 D0 (.lst (acc ++ [y]))) else Nx H3) := by
  refine ⟨fun i m H => m = l0.length - i ∧ i ≤ l0.length ∧ ∃ da lr h', da ++ lr = l ∧ compFix (turnC F TT EE (wipeE ρ vs)) (l0.drop i) h' = .ok lr h2 ∧ LcAt K T α H1 D0 i da h' H, ⟨_, rfl, Nat.zero_le _, [], l, h, rfl, e, lc_start TO S hD⟩, ?_⟩
  rintro i m H' ⟨rfl, hi, da, lr, h', el, e', α1, acc, ex1, S1, eD, rs, hl⟩
  have hz := Y.len
  by_cases hlt : i < l0.length
  · obtain ⟨d, hd⟩ : ∃ d, l0[i]? = some d := ⟨l0[i], by simp [hlt]⟩
    rw [drop_cons hd] at e'
    obtain ⟨xo, h3, lr2, e1, e2, e3⟩ := compFix_cons e'
    obtain ⟨go, yl⟩ := Y.go i d hd _ h' H' (ex1.hide0 hD) S1
    refine .inr ⟨go, fun H3 => LcAt K T α H1 D0 (i + 1) (da ++ xo.toList) h3 H3, fun H3 q => ⟨_, by omega, rfl, hlt, da ++ xo.toList, lr2, h3, by rw [List.append_assoc, ← e3]; exact el, e2, q⟩, fun x H3 y => ?_⟩
    obtain ⟨ex2, S2, r⟩ := yl x H3 y
    exact lc_next TO keeps er S hD sub (by omega) ex1 ex2 S2 eD rs hl r e1 fun H3 q => q
  · have z : i = l0.length := by omega
    subst z
    rw [List.drop_length] at e'
    cases e'
    rw [List.append_nil] at el
    subst el
    exact .inl ⟨Y.stop _ h2 H' (ex1.hide0 hD) S1, hQ H' _ hz ⟨α1, acc, ex1, S1, eD, rs, hl⟩⟩
theorem lc_cur (TO : TabOk T) (keeps : ∀ d ρ hh, (∃ ρ', F d ρ hh = .ok ρ' hh) ∨ F d ρ hh = .stuck) (er : EnvR α H1 ρ σ) (S : Sim K T α h H1) (hD : H1 D0 = none) (sub : ∀ i ∈ is, i ∈ vs) {l : List D} {n : Nat} {q : Addr} {h2 : AH} (en : α.l[n]? = some q) {f : Nat} (hf : f < sizeLine)
    (e : compCur (turnC F TT EE (wipeE ρ vs)) n f 0 h = .ok l h2) {Q : Hp → Prop} (hQ : ∀ H' i, i ≤ sizeLine → LcAt K T α H1 D0 i l h2 H' → Q H') :
    ∃ W : Nat → Nat → Hp → Prop, (∃ m, W 0 m (upd H1 D0 (.lst []))) ∧ ∀ i m H, W i m H → ((Itl K q).stop i H ∧ Q H) ∨ ((Itl K q).go i H ∧ ∃ Nx : Hp → Prop, (∀ H', Nx H' → ∃ m', m' < m ∧ W (i + 1) m' H') ∧ ∀ x H', (Itl K q).yld i H x H' →
      tGw K T F is x (wipe σ vs) H' fun σ2 H2 => wipe σ2 vs = wipe σ vs ∧ tFT K T noX TT σ2 H2 fun b H3 => if b = true then tF K T noX EE σ2 H3 fun y H4 => ∃ acc, H4 D0 = some (.lst acc) ∧ acc.length < sizeLine ∧ Nx (upd H4 D0 (.lst (acc ++ [y]))) else Nx H3) := by
  refine ⟨fun i m H => i + m = f ∧ ∃ da lr h', da ++ lr = l ∧ compCur (turnC F TT EE (wipeE ρ vs)) n m i h' = .ok lr h2 ∧ LcAt K T α H1 D0 i da h' H, ⟨f, Nat.zero_add _, [], l, h, rfl, e, lc_start TO S hD⟩, ?_⟩
  rintro i m H' ⟨hm, da, lr, h', el, e', α1, acc, ex1, S1, eD, rs, hl⟩
  cases m with
  | zero => cases e'
  | succ m =>
    have en1 : (α1.hide D0).l[n]? = some q := ex1.pre _ _ en
    obtain ⟨c, hc, cr⟩ := S1.has en1
    unfold compCur at e'
    have e' := (bind_ok (getC_ok hc)).symm.trans e'
    cases c with
    | dct lk kvs => cases e'
    | ins c fs => cases e'
    | lst lc =>
      obtain ⟨ws, e1, rs1, z⟩ := cr
      dsimp only at e'
      cases hd : lc[i]? with
      | none =>
        rw [hd] at e'
        cases e'
        rw [List.append_nil] at el
        subst el
        have hi : lc.length ≤ i := List.getElem?_eq_none_iff.mp hd
        exact .inl ⟨⟨ws, SqL.of e1, by rw [← rs1.length]; exact hi⟩, hQ H' i (by omega) ⟨α1, acc, ex1, S1, eD, rs, hl⟩⟩
      | some d =>
        rw [hd] at e'
        obtain ⟨v, ev, rv⟩ := rs1.get hd
        have e' : M.bind (turnC F TT EE (wipeE ρ vs) d) (fun x => M.bind (compCur (turnC F TT EE (wipeE ρ vs)) n m (i + 1)) fun l => M.pure (match x with | some y => y :: l | none => l)) h' = .ok lr h2 := e'
        unfold M.bind at e'
        cases q1 : turnC F TT EE (wipeE ρ vs) d h' with
        | stuck => rw [q1] at e'; cases e'
        | exc c h1 => rw [q1] at e'; cases e'
        | ok xo h3 =>
          rw [q1] at e'
          dsimp only at e'
          cases q2 : compCur (turnC F TT EE (wipeE ρ vs)) n m (i + 1) h3 with
          | stuck => rw [q2] at e'; cases e'
          | exc c h1 => rw [q2] at e'; cases e'
          | ok lr2 h4 =>
            rw [q2] at e'
            cases e'
            refine .inr ⟨⟨ws, v, SqL.of e1, ev⟩, fun H3 => LcAt K T α H1 D0 (i + 1) (da ++ xo.toList) h3 H3, fun H3 q => ⟨m, by omega, by omega, da ++ xo.toList, lr2, h3, by rw [← el, List.append_assoc]; cases xo <;> rfl, q2, q⟩, fun x H3 y => ?_⟩
            obtain ⟨rfl, y⟩ := y
            have ey := y ws (SqL.of e1)
            rw [ev] at ey
            cases ey
            exact lc_next TO keeps er S hD sub (by omega) ex1 (.refl _ _) S1 eD rs hl rv q1 fun H3 q => q
/-- the list is made -/
theorem lc_end {l : List D} {h2 : AH} {i : Nat} {mk : Bool} {Q : VK} {H' : Hp} (S : Sim K T α h H1) (hD : H1 D0 = none) (hi : i ≤ sizeLine) (o : Out K T E α H1 (newL mk l h2) Q) (q : LcAt K T α H1 D0 i l h2 H') : Q (.ref D0) H' := by
  obtain ⟨α1, acc, ex1, S1, eD, rs, hl⟩ := q
  have nl : D0 ∉ α1.l := (S1.hd D0 List.mem_cons_self).1
  have nh : D0 ∉ α1.hid := fun z => by
    rw [ex1.hid] at z
    obtain ⟨u, e⟩ := (S.hd D0 z).2
    rw [hD] at e
    cases e
  cases mk with
  | false => exact o α1 H' (.ref D0) ex1 S1.unhide (.lst eD (fun z => z.elim nl nh) (by omega) (rs.mono0 .unhide))
  | true =>
    have ex2 : Ext α (α1.snoc D0) H1 H' := ⟨(ex1.hide0 hD).trans .show, ex1.hid, ex1.hold⟩
    have ln : h2.length = α1.l.length := S1.len.symm
    exact o (α1.snoc D0) H' (.ref D0) ex2 (S1.shown eD rs (by omega) nh) (.ref (by rw [ln]; simp [Al.snoc]))
end
section
variable {P : Program} {w : World} {K : PySem.W.Frag} {mg : Str → Option Value} {base : Heap} {T : Hp → Prop} {Pg : Prog} {k : Nat} {C : CC} {E : XK} {X : Cx}
variable {elt tg iter : Expr} {ifs : List Expr} {scope : Scope} {pos p spos : Pos} {I0 : Env → M ItK} {F : D → Env → M Env} {TT : Env → M Bool} {EE : Env → M D} {is : List Nat} {own : List (Str × Nat)} {mk : Bool}
/-- a comprehension's value -/
def lcM (I0 : Env → M ItK) (F : D → Env → M Env) (TT : Env → M Bool) (EE : Env → M D) (vs : List Nat) (mk : Bool) (ρ : Env) : M D := do
  let it ← I0 ρ
  let l ← M.nox (compIt (turnC F TT EE (wipeE ρ vs)) it)
  newL mk l
theorem big_fuel : 100000 < sizeLine := by decide
theorem lc_sub (TO : TabOk T) (keeps : ∀ d ρ hh, (∃ ρ', F d ρ hh = .ok ρ' hh) ∨ F d ρ hh = .stuck) {vs : List Nat} (sub : ∀ i ∈ is, i ∈ vs) {σ : L2.St} {H : Hp} {Q : VK} (h : tF K T E (lcM I0 F TT EE vs mk) σ H Q) :
    tLc (tI K T E I0) (tGw K T F is) (tFT K T noX TT) (tF K T noX EE) vs σ H Q := by
  obtain ⟨α, ρ, h, er, S, o⟩ := h
  refine ⟨α, ρ, h, er, S, (OutG.bind (Rel := RIt K T) o).imp fun J H1 ⟨α1, h1, it, ex, S1, r, o1⟩ => fun D0 hD => ?_⟩
  have o1 : Out K T E α1 H1 (M.bind (M.nox (compIt (turnC F TT EE (wipeE ρ vs)) it)) (newL mk) h1) Q := o1
  have bn : ∀ r, compIt (turnC F TT EE (wipeE ρ vs)) it h1 = r → M.bind (M.nox (compIt (turnC F TT EE (wipeE ρ vs)) it)) (newL mk) h1 = (match r with | .ok l h2 => newL mk l h2 | _ => .stuck) := fun r z => by
    unfold M.bind M.nox
    rw [z]
    cases r <;> rfl
  cases e : compIt (turnC F TT EE (wipeE ρ vs)) it h1 with
  | stuck => rw [bn _ e] at o1; exact False.elim o1
  | exc c h2 => rw [bn _ e] at o1; exact False.elim o1
  | ok l h2 =>
    rw [bn _ e] at o1
    have o2 : Out K T E α1 H1 (newL mk l h2) Q := o1
    clear o bn
    cases it with
    | fix l0 => exact lc_fix TO keeps (er.mono ex) S1 hD sub r e fun H' i hi q => lc_end S1 hD hi o2 q
    | cur n =>
      obtain ⟨q, en, rfl⟩ := r
      exact lc_cur TO keeps (er.mono ex) S1 hD sub en big_fuel e fun H' i hi q => lc_end S1 hD hi o2 q
theorem se_lc (G : Good P w K mg base k C E X) (TO : TabOk T) (hF : compG (blkCC C scope) tg = some F) (hi : PI X tg iter (tI K T E I0)) (hb : blkB C scope tg = true)
    (ht : ∀ s H a cl fp, PTs (X.blk s H scope (compEnvC scope cl a X.env) fp) ifs (tFT K T noX TT)) (he : ∀ s H a cl fp, PE (X.blk s H scope (compEnvC scope cl a X.env) fp) elt (tF K T noX EE)) (hs : ∀ x, foldedSetIterable iter X.env x = pure x) :
    PE X (.ListComp elt [⟨tg, iter, ifs, 0⟩] scope pos) (tF K T E (lcM I0 F TT EE ((ownOf C.N scope).map (·.2)) mk)) := by
  obtain ⟨b1, b2⟩ := Bool.and_eq_true_iff.mp hb
  have ok : BlkOk X.N X.env.scope scope (ownOf C.N scope) := by rw [G.na, G.sc]; exact blkOk_by b1
  refine (pe_lc G.calm G.nd hi ok (fun s H a cl fp => sgw_any (T := T) (G.blk ok.kind s H a cl fp) hF) ht he hs).sub fun σ H Q h => lc_sub TO (fun d ρ hh => compG_keeps hF d ρ hh) (fun i hi => ?_) h
  have z := List.all_eq_true.mp b2 i hi
  simpa using z
theorem ss_lc (G : Good P w K mg base k C E X) (TO : TabOk T) (hF : compG (blkCC C scope) tg = some F) (hi : PI X tg iter (tI K T E I0)) (hb : blkB C scope tg = true)
    (ht : ∀ s H a cl fp, PTs (X.blk s H scope (compEnvC scope cl a X.env) fp) ifs (tFT K T noX TT)) (he : ∀ s H a cl fp, PE (X.blk s H scope (compEnvC scope cl a X.env) fp) elt (tF K T noX EE)) (hs : ∀ x, foldedSetIterable iter X.env x = pure x)
    {x : Str} {F1 : D → Env → M Env} (hF1 : compG C (.Name x p) = some F1) :
    PS X (.Assign [.Name x p] (.ListComp elt [⟨tg, iter, ifs, 0⟩] scope pos) spos) (tS K T E fun ρ => liftE (do F1 (← lcM I0 F TT EE ((ownOf C.N scope).map (·.2)) mk ρ) ρ) ρ fun ρ' h => .next ρ' h) := by
  have sw : ∃ b, swapsWith (.ListComp elt [⟨tg, iter, ifs, 0⟩] scope pos) (some (.Name x p)) spos.line X.env = pure b ∧ (b = true → X.env.scope.names.lookup x = some .local) :=
    ⟨_, rfl, fun z => by
      simp only [Bool.and_eq_true] at z
      exact eq_of_beq z.1.1.2⟩
  obtain ⟨b, e, hl⟩ := sw
  cases b with
  | false => exact ss_name G hF1 (se_lc G TO hF hi hb ht he hs) e
  | true =>
    obtain ⟨b1, b2⟩ := Bool.and_eq_true_iff.mp hb
    have ok : BlkOk X.N X.env.scope scope (ownOf C.N scope) := by rw [G.na, G.sc]; exact blkOk_by b1
    obtain ⟨g0, i, gs, rfl⟩ := compG_name hF1
    obtain ⟨g1, g2, g3⟩ := G.loc g0 gs
    refine (ps_setLc G.calm G.nd g1 (hl rfl) e hi ok (fun s H a cl fp => sgw_any (T := T) (G.blk ok.kind s H a cl fp) hF) ht he hs).sub fun D σ H h => ?_
    have h2 := store_sub (fun d ρ hh => compG_keeps hF1 d ρ hh) (tg := elt) h
    refine lc_sub (mk := mk) TO (fun d ρ hh => compG_keeps hF d ρ hh) (fun i hi => ?_) ?_
    · have z := List.all_eq_true.mp b2 i hi
      simpa using z
    · obtain ⟨α, ρ, hh, er, S, o⟩ := h2
      exact ⟨α, ρ, hh, er, S, o.imp fun v H1 ⟨α1, ρ1, h1, d, ρ', er1, S1, r, e, q⟩ => by cases e; exact q _ (er1.set r)⟩
end
end Cr
set_option Elab.async false
set_option linter.all false
set_option maxRecDepth 100000
set_option maxHeartbeats 2000000
/-! Where an exception is handled: a list's end, sum, a comprehension of ints. -/
namespace Cr
open PySem PySem.Spec PyProof.Rows L2 HotX L2H
section
variable {prog : Program} {w : World} {A : Around} {E : Value → Shared → Prop} {s : Shared}
theorem list_end_hot {it l x1 : Addr} {i : Nat} {items : Array Value} {Q : Option Value → Shared → Prop} (hot : HotAt A x1 s.heap) (hit : s.heap.IsListIter it l i) (hl : s.heap.IsList l items) (hx : items[i]? = none) (hne : x1 ≠ it)
    (hQ : ∀ h', Heap.ExtBut it s.heap h' → Q none { s with heap := h' }) : wpAny (model prog w) A (pyNext (.ref it)) Q E s := by
  obtain ⟨hh, o1, v1, g1, d1, c1⟩ := hot; obtain ⟨o, ho, hc, hd⟩ := id hit; obtain ⟨ol, hol, _, nl, hdl⟩ := hl
  have g2 : ∀ (u : Obj → Obj), (s.heap.update it u).get? x1 = some o1 := fun u => by rw [Heap.get?_update_other _ _ (Ne.symm hne)]; exact g1
  have key : wpAny (model prog w) A.in1 (Builtin.«list_iterator.__next__» ⟨[.ref it], []⟩) (fun _ _ => False) (fun e s1 => ∃ h' a, e = .ref a ∧ s1 = { s with heap := h' } ∧ Heap.ExtBut it s.heap h' ∧ ∃ oe, h'.get? a = some oe ∧ oe.cls = .type "StopIteration") s := by
    show wpAny _ _ (field (.ref it) 0 >>= _) _ _ s; refine wpAny_bind (wpAny_field ho hd (x := .ref l) rfl ?_)
    show wpAny _ _ (if (Value.ref l == Value.none) = true then _ else _) _ _ s; rw [if_neg (show ¬ ((Value.ref l == Value.none) = true) from Bool.false_ne_true)]
    show wpAny _ _ (field (.ref it) 1 >>= _) _ _ s; refine wpAny_bind (wpAny_field ho hd (x := .int i 0) rfl ?_)
    show wpAny _ _ (seqItems? (.ref l) >>= _) _ _ s; refine wpAny_bind (wpAny_seqItems hol hdl ?_)
    simp only [Int.toNat_natCast, hx]; refine wpAny_bind (wpAny_rule (wpAny_bind (wpAny_setField ho hd (by simp) ?_)))
    show wpAny _ _ (newExc (.type "StopIteration") [] >>= _) _ _ _; refine wpAny_bind ?_
    simp only [newExc, newTuple]; refine wpAny_bind (wpAny_newObj_type ?_ (by size_fits))
    refine wpAny_bind (m := firstArgMember _ _) (wpAny_of_eq (a := Value.none) (by first | rfl | (simp only [firstArgMember]; rfl)) ?_); refine wpAny_newObj_type ?_ (by size_fits)
    refine raiseNew_hot ⟨hh, o1, v1, Heap.get?_push_of_some _ (Heap.get?_push_of_some _ (g2 _)), d1, c1⟩ (Nat.ne_of_lt (Heap.lt_size (Heap.get?_push_of_some _ (g2 _)))) (Heap.get?_push_size _ rfl) rfl (by first | (simp; done) | (simp; omega)) ?_
    refine ⟨_, _, rfl, rfl, fun b ob hb e => ?_, _, Heap.get?_update_self _ (Heap.get?_push_size _ rfl) rfl, rfl⟩
    have e1 : ∀ u : Obj → Obj, (s.heap.update it u).get? b = some ob := fun u => by rw [Heap.get?_update_other _ _ (Ne.symm hb)]; exact e
    rw [Heap.get?_update_other]
    · exact Heap.get?_push_of_some _ (Heap.get?_push_of_some _ (e1 _))
    · exact Nat.ne_of_gt (Heap.lt_size (Heap.get?_push_of_some _ (e1 _)))
  unfold pyNext
  refine wpAny_bind (wpAny_attempt (wpAny_callSpecial?_slot (name := Str.ofString "__next__") hit.typeIs slot_listiter_next (wpAny_call_entry slot_listiter_next hit.typeIs entry_listiter_next (wpAny_mono key (fun _ _ z => z.elim) fun e s1 z => ?_) (args_listiter_next _))))
  obtain ⟨h', a, rfl, rfl, eb, oe, ea, ec⟩ := z
  refine wpAny_bind (wpAny_isInstance (T := "StopIteration") (b := true) ⟨_, ea, ec⟩ isSubtype_stop ?_)
  exact wpAny_pure (hQ _ eb)
theorem hot_stay {x1 : Addr} {h h' : Heap} (hot : HotAt A x1 h) (k : ∀ o, h.get? x1 = some o → h'.get? x1 = some o) : HotAt A x1 h' := by
  obtain ⟨hh, o, vs, e, d, c⟩ := hot
  exact ⟨hh, o, vs, k o e, d, c⟩
theorem walks_hot (I ax x1 : Addr) (hne : ax ≠ I) (h1 : x1 ≠ I) (items : Array Value) :
    Walks prog w A I [I, ax, x1] [I] items.size (fun i v => items[i]? = some v) (fun i h => h.IsListIter I ax i ∧ h.IsList ax items ∧ HotAt A x1 h) where
  sub := fun b hb => by simp at hb; simp [hb]
  frame := fun _ _ _ st hk => ⟨st.1.at fun o e => hk I (by simp) o e, st.2.1.at fun o e => hk ax (by simp) o e, hot_stay st.2.2 fun o e => hk x1 (by simp) o e⟩
  item := fun i s Q E hi st hQ => wpAny_pyNext_list_item st.1 st.2.1 (x := items[i]) (by simp [hi]) fun h' hit' hs' => hQ _ h' s.toks (by simp [hi]) ⟨hit', st.2.1.extBut hs'.extBut hne, hot_stay st.2.2 fun o e => hs'.extBut x1 o h1 e⟩ fun b o hb e => hs'.extBut b o (fun h => hb (by simp [h])) e
  done := fun s Q E st hQ => list_end_hot st.2.2 st.1 st.2.1 (by simp) h1 fun h' he' => hQ h' s.toks fun b o hb e => he' b o (fun h => hb (by simp [h])) e
  self := fun _ _ _ _ st hQ => wpAny_pyIter_listiter st.1 hQ
theorem sum_hot {x1 l : Addr} {its : List Value} {ns : List Int} {Q : Value → Shared → Prop} (hot : HotAt A x1 s.heap) (hl : s.heap.IsList l its.toArray) (hi : IntsAre its ns)
    (h : ∀ h' tk t', (∀ b o, s.heap.get? b = some o → h'.get? b = some o) → Q (.int ns.sum t') { s with heap := h', toks := tk }) : wpAny (model prog w) A (call (.builtin "sum") [.ref l]) Q E s := by
  obtain ⟨xs, e⟩ := hi.allInts.items
  have hn : numsOf (intItems xs).toList = ns := by rw [← e, hi.numsOf]
  rw [nums_intItems] at hn
  rw [e] at hl
  obtain ⟨hh, o1, v1, g1, d1, c1⟩ := hot
  refine call_sum_walkG (iter_intList hl fun s2 es st hfp hlI => ?_)
  subst es
  have n1 : x1 ≠ s.heap.objs.size := Nat.ne_of_lt (Heap.lt_size g1)
  refine ⟨_, _, _, _, _, _, numAt xs, rfl, walks_hot (A := A.in1) _ l x1 hlI n1 (intItems xs), ⟨st.1, st.2, hh, o1, v1, Heap.get?_push_of_some _ g1, d1, c1⟩, fun b hb => ?_, (fun _ _ => intItems_at), fun h' tk t' hk => ?_⟩
  · simp only [List.mem_cons, List.not_mem_nil, or_false] at hb
    rcases hb with rfl | rfl | rfl
    · exact hfp _ (by simp)
    · exact hfp _ (by simp)
    · exact Nat.lt_of_lt_of_le (Heap.lt_size g1) (by show _ ≤ (s.heap.push _).objs.size; rw [Heap.size_push]; omega)
  · have z := h h' tk t' (old_kept hk)
    have e2 : preSum (numAt xs) (intItems xs).size = (xs.toList.map (·.1)).sum := by
      rw [preSum_eq, List.take_of_length_le (by simp [intItems])]
      try rfl
    rw [e2]
    rw [← hn] at z
    exact z
end
end Cr
set_option Elab.async false
set_option linter.all false
set_option maxRecDepth 100000
set_option maxHeartbeats 2000000
/-! Where an exception is handled: [int(b) for b in bs]. -/
namespace Cr
open PySem PySem.Spec PyProof.Rows L2 HotX L2H
def b2i (b : Bool) : V := .int (if b then 1 else 0)
theorem pe_hotcomp {X : Cx} {x y : Str} {ix iy : Nat} {scope : Scope} {own : List (Str × Nat)} {elt : Expr} {p4 p5 pos : Pos} (hot : HotC X) (hN : X.N.Nodup) (ok : BlkOk X.N X.env.scope scope own) (hi : PE X (.Name x p5) (tVar ix)) (hiy : iy ∈ own.map (·.2))
    (hg : ∀ (s : Shared) (H : Hp) (C : Addr) (cl : List (Str × Addr)) (fp : List Addr), PG (X.blk s H scope (compEnvC scope cl C X.env) fp) (.Name y p4) (gName iy))
    (he : ∀ (s : Shared) (H : Hp) (C : Addr) (cl : List (Str × Addr)) (fp : List Addr), PE (X.blk s H scope (compEnvC scope cl C X.env) fp) elt (fun σ H Q => ∃ b, σ[iy]? = some (some (.bl b)) ∧ Q (b2i b) H)) :
    PE X (.ListComp elt [⟨.Name y p4, .Name x p5, [], 0⟩] scope pos) (fun σ H Q => ∃ (l : Addr) (bs : List Bool), σ[ix]? = some (some (.ref l)) ∧ H l = some (.lst (bs.map .bl)) ∧ bs.length < sizeLine ∧ iy < σ.length ∧ ∀ D, H D = none → Q (.ref D) (upd H D (.lst (bs.map b2i)))) := by
  refine ⟨fun pins s σ H Q I h => ?_⟩
  obtain ⟨l, bs, e1, e2, hz, hsl, q⟩ := h
  rw [eval_ListComp]
  have cap : ∀ z ∈ scope.names, z.2 = .free → ∃ c, X.env.cells.lookup z.1 = some c := fun z hz e => (ok.free z hz e).elim (fun k => I.ok.has _ (.inl k)) fun k => I.ok.has _ (.inr k)
  refine wpAny_comprehension_free (use := none) rfl (fun _ => rfl) (closure_ok cap) ok.kind (fun z hz e => by rw [ok.uniq z hz, e]) (thn (hi.run pins s σ H (fun v H1 => v = .ref l ∧ H1 = H) I ⟨_, e1, rfl, rfl⟩) fun xv s1 hx => ?_)
  obtain ⟨v, H1, I1, r1, ev, eH⟩ := hx
  subst ev eH
  obtain rfl : xv = Value.ref l := r1
  obtain ⟨its, rv, pl, _⟩ := I1.list (SqL.of e2)
  refine wpAny_pyIter_list pl.isList ?_
  -- the iterator, the new list, the block
  generalize hit : s1.heap.objs.size = it
  generalize hs2 : ({ s1 with heap := s1.heap.push { cls := .type "list_iterator", data := .fields #[.ref l, .int 0 0] } } : Shared) = s2
  have I2 : Inv X pins σ H1 s2 := by rw [← hs2]; exact I1.kept (t' := s1.toks) fun b o e => Heap.get?_push_of_some _ e
  have st2 : s2.heap.IsListIter it l 0 := by rw [← hs2, ← hit]; exact ⟨_, Heap.get?_push_size _ rfl, rfl, rfl⟩
  have f2 : FpOk X pins H1 it := by rw [← hit]; exact I1.fpOk (Nat.le_refl _) (I1.hok.fresh (Nat.le_refl _))
  refine wpAny_newObj_type (newEnv_comp ?_) (by show 0 ≤ sizeLine; decide)
  generalize hD : s2.heap.objs.size = D
  have hDn : H1 D = none := I2.hok.fresh (Nat.le_of_eq hD)
  have itD : it < D := by
    obtain ⟨o, e, _⟩ := st2
    rw [← hD]
    exact Heap.lt_size e
  generalize hs3 : ({ s2 with heap := s2.heap.push { cls := .type "list", data := .seq ([] : List Value).toArray } } : Shared) = s3
  have h3 : s3.heap = s2.heap.push { cls := .type "list", data := .seq ([] : List Value).toArray } := by rw [← hs3]
  have I3 : Inv X pins σ (upd H1 D (.lst [])) s3 := by
    rw [← hs3]
    exact I2.laid (t' := s2.toks) (fun b o e => Heap.get?_push_of_some _ e) (Nat.le_of_eq hD) ⟨Nat.zero_le _, [], 0, .nil, by rw [← hD]; exact Heap.get?_push_size _ rfl⟩
  have st3 : s3.heap.IsListIter it l 0 := st2.at fun o e => by rw [h3]; exact Heap.get?_push_of_some _ e
  have f3 : FpOk X pins (upd H1 D (.lst [])) it := ⟨by rw [upd_ne (Nat.ne_of_lt itD)]; exact f2.1, f2.2⟩
  have I4 := block_start (fp := [it]) I3 ok hN fun b hb => by
    have e : b = it := by simpa using hb
    subst e
    obtain ⟨o, e, _⟩ := st3
    exact ⟨f3, Heap.lt_size e⟩
  -- the handled exception
  obtain ⟨pe, hp1, hp2⟩ := hot
  have P3 := I3.pin pe (List.mem_append_left _ hp2)
  have nfr : pe.1 ∉ frs X.stack := fun hm => (List.mem_cons.mp (I3.stkSub pe.1 hm)).elim P3.2.2.1 P3.2.2.2.1
  have nit : pe.1 ≠ it := f3.2.2.2.2.2 pe (List.mem_append_left _ hp2)
  have pg := hg s3 (upd H1 D (.lst [])) s3.heap.objs.size (cellsFrom (s3.heap.objs.size + 1) scope.names (cloFrom X.env.cells scope.names [])) [it]
  have pe' := he s3 (upd H1 D (.lst [])) s3.heap.objs.size (cellsFrom (s3.heap.objs.size + 1) scope.names (cloFrom X.env.cells scope.names [])) [it]
  show codeAny _ _ (.compStart (.ListComp elt [⟨.Name y p4, .Name x p5, [], 0⟩] scope pos) 0 (.ref it) (.ref D) (compEnvC scope (cellsFrom (s3.heap.objs.size + 1) scope.names (cloFrom X.env.cells scope.names [])) s3.heap.objs.size X.env)) _ { s3 with heap := pushCells (s3.heap.push { cls := .type "dict", data := .dict #[] }) scope.names }
  generalize hce : compEnvC scope (cellsFrom (s3.heap.objs.size + 1) scope.names (cloFrom X.env.cells scope.names [])) s3.heap.objs.size X.env = ce at I4 pg pe' ⊢
  have cL : ce.locals = s3.heap.objs.size := by subst hce; rfl
  generalize hs4 : ({ s3 with heap := pushCells (s3.heap.push { cls := .type "dict", data := .dict #[] }) scope.names } : Shared) = s4 at I4 ⊢
  have st4 : s4.heap.IsListIter it l 0 := st3.at fun o e => by rw [← hs4]; exact pushCells_keeps _ _ _ _ (Heap.get?_push_of_some _ e)
  have lD : l ≠ D := ne_of_none e2 hDn
  have lIt : l ≠ it := ne_of_none e2 f2.1
  -- what a turn finds
  have stat : ∀ {σ' : L2.St} {H' : Hp} {s' : Shared}, Inv (X.blk s3 (upd H1 D (.lst [])) scope ce [it]) [] σ' H' s' → H' it = none → FpOk (X.blk s3 (upd H1 D (.lst [])) scope ce [it]) [] H' it := fun {σ' H' s'} I' hn =>
    ⟨hn, (I'.ok.exf it (by simp)).1, I'.ok.exfs it (by simp), .inl (by simp), fun x c e => (I'.ok.exf it (by simp)).2 x c e, fun p hp => absurd (show p ∈ ([] : List (Addr × Obj)) ++ [] from hp) (by simp)⟩
  have loop : codeAny (model X.prog X.w) X.A (.compLoop (.ListComp elt [⟨.Name y p4, .Name x p5, [], 0⟩] scope pos) 0 (.ref it) (.ref D) ce) (compPost (model X.prog X.w) X.A X.xe none (EP X pins σ Q) (.ref D) s3.heap.objs.size) s4 := by
    refine compLoop_any (fun n s' => ∃ i, i + n = bs.length + 1 ∧ i ≤ bs.length ∧ Inv (X.blk s3 (upd H1 D (.lst [])) scope ce [it]) [] (wipe σ (own.map (·.2))) (upd H1 D (.lst ((bs.take i).map b2i))) s' ∧ s'.heap.IsListIter it l i) ?_ (bs.length + 1) ⟨0, Nat.zero_add _, Nat.zero_le _, by simpa using I4, st4⟩
    rintro n s5 ⟨i, hn, hi5, I5, st5⟩
    have n5 : upd H1 D (.lst ((bs.take i).map b2i)) it = none := by rw [upd_ne (Nat.ne_of_lt itD)]; exact f2.1
    have l5 : upd H1 D (.lst ((bs.take i).map b2i)) l = some (.lst (bs.map .bl)) := by rw [upd_ne lD]; exact e2
    obtain ⟨its5, rv5, pl5, _⟩ := I5.list (SqL.of l5)
    have len5 := rv5.length
    rw [List.length_map] at len5
    obtain ⟨g0, g1, g2, g3, g4, g5⟩ := stat I5 n5
    by_cases hlt : i < bs.length
    · -- an item
      obtain ⟨b, hb⟩ : ∃ b, bs[i]? = some b := ⟨bs[i], by simp [hlt]⟩
      obtain ⟨u, hu, ru⟩ := rv5.get (i := i) (x := .bl b) (by rw [List.getElem?_map, hb]; rfl)
      refine wpAny_pyNext_list_item st5 pl5.isList (x := u) (by simpa using hu) fun h' st6 sb => ?_
      have I6 : Inv (X.blk s3 (upd H1 D (.lst [])) scope ce [it]) [] (wipe σ (own.map (·.2))) (upd H1 D (.lst ((bs.take i).map b2i))) { s5 with heap := h' } := I5.turned (t' := s5.toks) (fun b o hb e => (sb.2 b hb).trans e) g0 g1 g3 g4 g5
      obtain ⟨oi, ei, ci, di⟩ := id st6
      refine go_of (s := { s5 with heap := h' }) ei ci di (by decide) ?_
      have I7 := I6.pinned (fp := [it]) (fun b hb => by
        have e : b = it := by simpa using hb
        subst e
        exact stat I6 n5) (fun b hb => by
        have e : b = it := by simpa using hb
        subst e
        exact ⟨oi, ei, fun v z => by rw [di] at z; cases z⟩)
      refine thnF (pg.run _ _ _ _ (.bl b) u (fun σ2 H2 => σ2 = (wipe σ (own.map (·.2))).set iy (some (.bl b)) ∧ H2 = upd H1 D (.lst ((bs.take i).map b2i))) I7 ru ⟨rfl, rfl⟩) fun _ s8 h8 => ?_
      obtain ⟨σ8, H8, I8, eσ, eH⟩ := h8
      subst eσ eH
      show wpAny _ _ (pure true) _ _ _
      refine wpAny_pure ?_
      rw [if_pos rfl]
      have hsl2 : iy < (wipe σ (own.map (·.2))).length := by rw [wipe_length]; exact hsl
      refine thnF (pe'.run _ s8 _ _ (fun z H2 => z = b2i b ∧ H2 = upd H1 D (.lst ((bs.take i).map b2i))) I8 ⟨b, List.getElem?_set_self hsl2, rfl, rfl⟩) fun z s9 h9 => ?_
      obtain ⟨zv, H9, I9, r9, ez, eH9⟩ := h9
      subst ez eH9
      refine app_ok (X := X.blk s3 (upd H1 D (.lst [])) scope ce [it]) I9 upd_same (by simp; omega) r9 fun s10 I10 => ⟨n - 1, by omega, i + 1, by omega, hlt, ?_, ?_⟩
      · have e : upd (upd H1 D (.lst ((bs.take i).map b2i))) D (.lst ((bs.take i).map b2i ++ [b2i b])) = upd H1 D (.lst ((bs.take (i + 1)).map b2i)) := by
          rw [upd_upd, List.take_add_one, hb]
          simp
        rw [e] at I10
        refine (I10.unpinned (pins := [])).weak (by rw [List.length_set]) fun j v ej => ?_
        by_cases hj : iy = j
        · subst hj
          rw [wipe_get, if_pos hiy] at ej
          split at ej <;> cases ej
        · rw [List.getElem?_set_ne hj]
          exact ej
      · exact st6.at fun o e => (I10.pin (it, o) (List.mem_append_right _ (List.mem_append_right _ (mem_pinsAt (by simp) e)))).1
    · -- the end
      have ei : i = bs.length := by omega
      subst ei
      have hotS : HotAt X.A pe.1 s5.heap := by
        obtain ⟨hh, v1, d1, c1⟩ := hp1
        exact ⟨hh, pe.2, v1, I5.base.keep pe.1 pe.2 P3.1 P3.2.1 nfr (by simpa using nit), d1, c1⟩
      refine list_end_hot hotS st5 pl5.isList (by simp; omega) nit fun h' eb => ?_
      have I6 : Inv (X.blk s3 (upd H1 D (.lst [])) scope ce [it]) [] (wipe σ (own.map (·.2))) (upd H1 D (.lst ((bs.take bs.length).map b2i))) { s5 with heap := h' } := I5.turned (t' := s5.toks) (fun b o hb e => eb b o hb e) g0 g1 g3 g4 g5
      have I7 : Inv X pins σ (upd H1 D (.lst ((bs.take bs.length).map b2i))) { s5 with heap := h' } := I3.call' (ch := [it]) I6.os I6.base I6.hok I6.bare fun b hb => by
        have e : b = it := by simpa using hb
        subst e
        exact ⟨f3.2.2.2.1, f3.2.1, f3.2.2.2.2.1, f3.2.2.2.2.2⟩
      have nC : upd H1 D (.lst ((bs.take bs.length).map b2i)) s3.heap.objs.size = none := by
        have z := I6.free
        rw [← cL]
        exact z
      obtain ⟨m, hn6, _⟩ := I6.loc
      have hn6 : h'.Ns ce.locals m := hn6
      rw [cL] at hn6
      obtain ⟨k0, k1, k2, k3, k4, k5⟩ : FpOk X pins (upd H1 D (.lst ((bs.take bs.length).map b2i))) s3.heap.objs.size := I3.fpOk (Nat.le_refl _) nC
      refine ⟨m, hn6, fun h'' sb => ⟨.ref D, upd H1 D (.lst (bs.map b2i)), ?_, rfl, q D hDn⟩⟩
      rw [List.take_length] at I7
      exact I7.turned (t' := s5.toks) (fun b o hb e => (sb.2 b hb).trans e) (by rw [List.take_length] at k0; exact k0) k1 k3 k4 k5
  exact codeAny_compStart_list loop (wpAny_pyIter_listiter st4 loop)
end Cr
set_option Elab.async false
set_option linter.all false
set_option maxRecDepth 100000
set_option maxHeartbeats 2000000
/-! The def that tells a refusal by its name. -/
namespace Cr
open PySem PySem.Spec PyProof.Rows L2 HotX L2H
/-! ### its text, from its line on -/
def at_ (l a b : Nat) : Pos := ⟨l, a, l, b⟩
def isiE (l c n : Nat) (x : Str) : Expr := .Call (.Name "isinstance" (at_ l c (c + 10))) [.Name "e" (at_ l (c + 11) (c + 12)), .Name x (at_ l (c + 14) (c + 14 + n))] [] (at_ l c (c + 15 + n))
def strE (l c n : Nat) (x : Str) : Expr := .Constant (.str x) 0 (at_ l c (c + 2 + n))
def cSc : Scope := ⟨.function, [(".0", .local), ("flag", .local), ("int", .globalImplicit)], false, false, []⟩
def termSc : Scope := ⟨.function, ([("e", .local), ("flags", .local), ("kinds", .local)] : List (Str × NameKind)) ++ ((["isinstance"] : List Str) ++ toldN ++ (["sum", "ValueError"] : List Str)).map (fun x => (x, NameKind.globalImplicit)), false, false, (["e", "flags", "kinds", "flag"] : List Str).map fun x => ("fast", .str x)⟩
def flE (l c : Nat) : Expr := .Name "flags" (at_ l c (c + 5))
def kiE (l c : Nat) : Expr := .Name "kinds" (at_ l c (c + 5))
def sumE (l : Nat) : Expr := .Call (.Name "sum" (at_ l 7 10)) [.ListComp (.Call (.Name "int" (at_ l 12 15)) [.Name "flag" (at_ l 16 20)] [] (at_ l 12 21)) [⟨.Name "flag" (at_ l 26 30), flE l 34, [], 0⟩] cSc (at_ l 11 40)] [] (at_ l 7 41)
def tS1 (L : Nat) : Stmt := .Assign [flE (L + 1) 4] (.List [isiE (L + 1) 13 7 "BadMail", isiE (L + 1) 37 9 "BadLetter", isiE (L + 1) 63 9 "BadNumber", isiE (L + 1) 89 8 "BadOrder"] (at_ (L + 1) 12 113)) (at_ (L + 1) 4 113)
def tS2 (L : Nat) : Stmt := .Assign [flE (L + 2) 4] (.BinOp (flE (L + 2) 12) .Add (.List [isiE (L + 2) 21 7 "BadPart", isiE (L + 2) 45 8 "BadRough", isiE (L + 2) 70 8 "BadDates"] (at_ (L + 2) 20 94)) (at_ (L + 2) 12 94)) (at_ (L + 2) 4 94)
def tS3 (L : Nat) : Stmt := .Assign [flE (L + 3) 4] (.BinOp (flE (L + 3) 12) .Add (.List [isiE (L + 3) 21 7 "Nothing", isiE (L + 3) 45 4 "Full", isiE (L + 3) 66 7 "BadText"] (at_ (L + 3) 20 89)) (at_ (L + 3) 12 89)) (at_ (L + 3) 4 89)
def tS4 (L : Nat) : Stmt := .Expr (.Call (.Attribute (flE (L + 4) 4) "append" (at_ (L + 4) 4 16)) [isiE (L + 4) 17 8 "BadFound"] [] (at_ (L + 4) 4 41)) (at_ (L + 4) 4 41)
def tS5 (L : Nat) : Stmt := .Assign [kiE (L + 5) 4] (.List [strE (L + 5) 13 7 "BadMail", strE (L + 5) 24 9 "BadLetter", strE (L + 5) 37 9 "BadNumber", strE (L + 5) 50 8 "BadOrder", strE (L + 5) 62 7 "BadPart", strE (L + 5) 73 8 "BadRough", strE (L + 5) 85 8 "BadDates"] (at_ (L + 5) 12 96)) (at_ (L + 5) 4 96)
def tS6 (L : Nat) : Stmt := .Assign [kiE (L + 6) 4] (.BinOp (kiE (L + 6) 12) .Add (.List [strE (L + 6) 21 7 "Nothing", strE (L + 6) 32 4 "Full", strE (L + 6) 40 7 "BadText", strE (L + 6) 51 8 "BadFound"] (at_ (L + 6) 20 62)) (at_ (L + 6) 12 62)) (at_ (L + 6) 4 62)
def tS7 (L : Nat) : Stmt := .If (.BoolOp .Or [.Compare (sumE (L + 7)) [.NotEq] [.Constant (.int 1) 0 (at_ (L + 7) 45 46)] (at_ (L + 7) 7 46), .UnaryOp .Not (isiE (L + 7) 54 10 "ValueError") (at_ (L + 7) 50 79)] (at_ (L + 7) 7 79)) [.Return (some (.Tuple [strE (L + 8) 16 7 "refused", strE (L + 8) 27 5 "other"] 0 (at_ (L + 8) 15 35))) (at_ (L + 8) 8 35)] [] ⟨L + 7, 4, L + 8, 35⟩
def tS8 (L : Nat) : Stmt := .Return (some (.Tuple [strE (L + 9) 12 7 "refused", .Subscript (kiE (L + 9) 23) (.Call (.Attribute (flE (L + 9) 29) "index" (at_ (L + 9) 29 40)) [.Constant (.bool true) 0 (at_ (L + 9) 41 45)] [] (at_ (L + 9) 29 46)) (at_ (L + 9) 23 47)] 0 (at_ (L + 9) 11 48))) (at_ (L + 9) 4 48)
def termB (L : Nat) : List Stmt := [tS1 L, tS2 L, tS3 L, tS4 L, tS5 L, tS6 L, tS7 L, tS8 L]
def toldSc : Scope := ⟨.function, [("deed", .local), ("e", .local), ("MailError", .globalImplicit), ("_law_term", .globalImplicit)], false, false, []⟩
def toldB (L : Nat) : List Stmt := [.Try [.Return (some (.Call (.Name "deed" (at_ (L + 2) 15 19)) [] [] (at_ (L + 2) 15 21))) (at_ (L + 2) 8 21)]
  [.ExceptHandler (some (.Name "MailError" (at_ (L + 3) 11 20))) (some "e") [.Return (some (.Call (.Name "_law_term" (at_ (L + 4) 15 24)) [.Name "e" (at_ (L + 4) 25 26)] [] (at_ (L + 4) 15 27))) (at_ (L + 4) 8 27)] ⟨L + 3, 4, L + 4, 27⟩] [] [] ⟨L + 1, 4, L + 4, 27⟩]
def termN : List Str := ["e", "flags", "kinds", "flag"]
theorem gl_isi : termSc.names.lookup ("isinstance" : Str) = some .globalImplicit := by decide +kernel
theorem gl_sum : termSc.names.lookup ("sum" : Str) = some .globalImplicit := by decide +kernel
theorem gl_ve : termSc.names.lookup ("ValueError" : Str) = some .globalImplicit := by decide +kernel
theorem gl_told : ∀ x ∈ toldN, termSc.names.lookup x = some .globalImplicit ∧ (x == ("__debug__" : Str)) = false := by decide +kernel
theorem lo_e : termSc.names.lookup ("e" : Str) = some .local := by decide +kernel
theorem lo_fl : termSc.names.lookup ("flags" : Str) = some .local := by decide +kernel
theorem lo_ki : termSc.names.lookup ("kinds" : Str) = some .local := by decide +kernel
/-- what the top must say of the refusals -/
structure TermF (K : PySem.W.Frag) (mg : Str → Option Value) : Prop where
  isi : mg "isinstance" = none
  sum : mg "sum" = none
  int : mg "int" = none
  ve : mg "ValueError" = none
  cls : ∀ x ∈ toldN, mg x = some (.ref (He.ga K x))
  exc : ∀ x ∈ toldN, ExcC K (He.ga K x)
  kit : ∀ c ∈ toldN, ∀ x ∈ toldN, PySem.W.kitOne K (.ref (He.ga K c)) (.ref (He.ga K x)) = some (decide (x = c))
  kitV : ∀ c ∈ toldN, PySem.W.kitOne K (.ref (He.ga K c)) (.type "ValueError") = some true
/-- isinstance(e, ..), e pinned -/
theorem call_isP {X : Cx} {a D : Addr} {oe : Obj} (C : ExcC X.K D) (hz : Zc (.ref D) none oe) (hf : ∃ vs, oe.data = .fields vs) (hp : (a, oe) ∈ X.pn) : CallR X (.builtin "isinstance") (rIsE X.K D a) := by
  intro pins s σ H xs us Q I r ⟨c, cv, b, ex, hcv, e, q⟩
  subst ex
  cases r with
  | cons rx rr =>
    cases rr with
    | cons rt rr =>
      cases rr; cases rx
      have ec := hcv _ rt
      subst ec
      obtain ⟨vs, hv⟩ := hf
      have J : PySem.W.InstAt s.heap a oe D none := by
        have g := (I.pin (a, oe) (List.mem_append_left _ hp)).1
        obtain ⟨oc, od, oda, osl⟩ := oe
        obtain ⟨h1, h2⟩ := hz
        dsimp only at h1 h2 hv
        subst h1 h2 hv
        exact ⟨g, rfl, rfl, trivial⟩
      exact PySem.W.kia_one (PySem.W.handS_kitx_exc C.hg C.hk C.hs C.hd C.ha C.hn C.ht C.hm) I.kIn J e (fun z => nomatch z) fun tk => ⟨.bl b, H, I.kept (t' := tk) fun _ _ z => z, rfl, q⟩
section
variable {CX : CXT} {P : Program} {w : World} {K : PySem.W.Frag} {mg : Str → Option Value} {base : Heap} {f : Addr} {cdv : Value} {A : Around} {outer : List PySem.Env} {s : Shared} {H0 : Hp} {E : XK} {a : Addr} {oe : Obj} {cn : Str} {l' c' n' : Nat}
abbrev cxT (CX : CXT) (P : Program) (w : World) (K : PySem.W.Frag) (mg : Str → Option Value) (base : Heap) (f : Addr) (cdv : Value) (A : Around) (outer : List PySem.Env) (s : Shared) (H0 : Hp) (E : XK) (p : Addr × Obj) : Cx :=
  cxH CX P w K mg base termN "_law_term" termSc f cdv A outer s H0 E p
/-- the exception is told -/
abbrev tIs (a : Addr) (b : Bool) : TE := fun σ H Q => σ[0]? = some (some (.ref a)) ∧ Q (.bl b) H
theorem pe_isi (F : TermF K mg) (hc : cn ∈ toldN) (hz : Zc (.ref (He.ga K cn)) none oe) (hf : ∃ vs, oe.data = .fields vs) {x : Str} {v : V} {u : Value} {b : Bool} (hx : PE (cxT CX P w K mg base f cdv A outer s H0 E (a, oe)) (.Name x (at_ l' (c' + 14) (c' + 14 + n'))) (tC v)) (hv : ∀ u', RelV v u' → u' = u)
    (hk : PySem.W.kitOne K (.ref (He.ga K cn)) u = some b) : PE (cxT CX P w K mg base f cdv A outer s H0 E (a, oe)) (isiE l' c' n' x) (tIs a b) :=
  (pe_callB (X := cxT CX P w K mg base f cdv A outer s H0 E (a, oe)) (call_isP (F.exc cn hc) hz hf List.mem_cons_self) gl_isi F.isi boot_isinstance (pa_cons (pe_var (i := 0) (by rfl) (.inl lo_e)) (pa_cons hx pa_nil))).sub fun σ H Q h => ⟨.ref a, h.1, v, u, b, rfl, hv, hk, h.2⟩
theorem pe_isN (F : TermF K mg) (hc : cn ∈ toldN) (hz : Zc (.ref (He.ga K cn)) none oe) (hf : ∃ vs, oe.data = .fields vs) {x : Str} (hx : x ∈ toldN) :
    PE (cxT CX P w K mg base f cdv A outer s H0 E (a, oe)) (isiE l' c' n' x) (tIs a (decide (x = cn))) :=
  pe_isi F hc hz hf (pe_glob (X := cxT CX P w K mg base f cdv A outer s H0 E (a, oe)) (v := .ref (He.ga K x)) (gl_told x hx).1 (F.cls x hx) rfl (gl_told x hx).2) (fun _ h => h) (F.kit cn hc x hx)
end
end Cr
set_option Elab.async false
set_option linter.all false
set_option maxRecDepth 100000
set_option maxHeartbeats 2000000
/-! The def that tells a refusal by its name: its body. -/
namespace Cr
open PySem PySem.Spec PyProof.Rows L2 HotX L2H
/-- all that stood stands -/
def Up (H H' : Hp) : Prop := ∀ b o, H b = some o → H' b = some o
theorem Up.refl (H : Hp) : Up H H := fun _ _ h => h
theorem Up.trans {H H1 H2 : Hp} (a : Up H H1) (b : Up H1 H2) : Up H H2 := fun c o h => b c o (a c o h)
theorem Up.new {H H' : Hp} (u : Up H H') {p : Addr} {o : HO} (hp : H' p = none) : Up H (upd H' p o) := fun b q h => by rw [upd_ne (ne_of_none (u b q h) hp)]; exact u b q h
/-- a list of our own is written -/
theorem Up.mine {H H' : Hp} (u : Up H H') {p : Addr} {o : HO} (hp : H p = none) : Up H (upd H' p o) := fun b q h => by rw [upd_ne (ne_of_none h hp)]; exact u b q h
theorem Up.free {H H' : Hp} (u : Up H H') {p : Addr} (hp : H' p = none) : H p = none := by
  cases e : H p with
  | none => rfl
  | some o => have := u p o e; rw [hp] at this; cases this
def flagsOf (cn : Str) : List Bool := toldN.map fun x => decide (x = cn)
theorem flags_sum : ∀ c ∈ toldN, ((flagsOf c).map fun b => if b then (1 : Int) else 0).sum = 1 := by decide +kernel
theorem flags_at : ∀ c ∈ toldN, ∃ j, (flagsOf c)[j]? = some true ∧ (∀ m, m < j → (flagsOf c)[m]? = some false) ∧ toldN[j]? = some c ∧ j < 11 := by
  intro c hc
  simp only [toldN, List.mem_cons, List.not_mem_nil, or_false] at hc
  rcases hc with rfl | rfl | rfl | rfl | rfl | rfl | rfl | rfl | rfl | rfl | rfl
  · exact ⟨0, by decide +kernel, by decide +kernel, by decide +kernel, by decide⟩
  · exact ⟨1, by decide +kernel, by decide +kernel, by decide +kernel, by decide⟩
  · exact ⟨2, by decide +kernel, by decide +kernel, by decide +kernel, by decide⟩
  · exact ⟨3, by decide +kernel, by decide +kernel, by decide +kernel, by decide⟩
  · exact ⟨4, by decide +kernel, by decide +kernel, by decide +kernel, by decide⟩
  · exact ⟨5, by decide +kernel, by decide +kernel, by decide +kernel, by decide⟩
  · exact ⟨6, by decide +kernel, by decide +kernel, by decide +kernel, by decide⟩
  · exact ⟨7, by decide +kernel, by decide +kernel, by decide +kernel, by decide⟩
  · exact ⟨8, by decide +kernel, by decide +kernel, by decide +kernel, by decide⟩
  · exact ⟨9, by decide +kernel, by decide +kernel, by decide +kernel, by decide⟩
  · exact ⟨10, by decide +kernel, by decide +kernel, by decide +kernel, by decide⟩
theorem mem_told : ("BadMail" : Str) ∈ toldN ∧ ("BadLetter" : Str) ∈ toldN ∧ ("BadNumber" : Str) ∈ toldN ∧ ("BadOrder" : Str) ∈ toldN ∧ ("BadPart" : Str) ∈ toldN ∧ ("BadRough" : Str) ∈ toldN ∧ ("BadDates" : Str) ∈ toldN ∧ ("Nothing" : Str) ∈ toldN ∧ ("Full" : Str) ∈ toldN ∧ ("BadText" : Str) ∈ toldN ∧ ("BadFound" : Str) ∈ toldN := by decide +kernel
section
variable {CX : CXT} {P : Program} {w : World} {K : PySem.W.Frag} {mg : Str → Option Value} {base : Heap} {f : Addr} {cdv : Value} {A : Around} {outer : List PySem.Env} {s : Shared} {H0 : Hp} {E : XK} {a : Addr} {oe : Obj} {cn : Str} {l' c' n' : Nat}
theorem sum_hotR {X : Cx} (hot : HotC X) : CallR X (.builtin "sum") (rSum X.K) := by
  intro pins s σ H xs us Q I r ⟨a, ns, e, hq, q⟩
  subst e
  obtain ⟨its, rv, pl, _⟩ := I.list hq
  obtain ⟨x1, h1⟩ := hot.at I
  cases r with
  | cons rx rr =>
    cases rr; cases rx
    exact sum_hot h1 pl.isList rv.ints fun h' tk t' hk => ⟨.int _, H, I.kept hk, ⟨_, rfl⟩, q⟩
theorem blk_c : L2.blkC termN termSc cSc [(("flag" : Str), 3)] = true := by decide +kernel
theorem term_sum (F : TermF K mg) (hot : HotC (cxT CX P w K mg base f cdv A outer s H0 E (a, oe))) {l : Nat} : PE (cxT CX P w K mg base f cdv A outer s H0 E (a, oe)) (sumE l)
    (fun σ H Q => ∃ (q : Addr) (bs : List Bool), σ.length = 4 ∧ σ[1]? = some (some (.ref q)) ∧ H q = some (.lst (bs.map .bl)) ∧ bs.length < sizeLine ∧ ∀ D, H D = none → Q (.int (bs.map fun b => if b then (1 : Int) else 0).sum) (upd H D (.lst (bs.map b2i)))) := by
  have ok : BlkOk termN termSc cSc [(("flag" : Str), 3)] := blkOk_by blk_c
  have cmp := pe_hotcomp (X := cxT CX P w K mg base f cdv A outer s H0 E (a, oe)) (x := "flags") (y := "flag") (ix := 1) (iy := 3) (scope := cSc) (own := [(("flag" : Str), 3)]) (elt := .Call (.Name "int" (at_ l 12 15)) [.Name "flag" (at_ l 16 20)] [] (at_ l 12 21)) (p4 := at_ l 26 30) (p5 := at_ l 34 39) (pos := at_ l 11 40)
    hot (by show termN.Nodup; decide +kernel) ok (pe_var (by rfl) (.inl lo_fl)) (by simp) (fun s H C cl fp => pg_name (by show termN.Nodup; decide +kernel) (by rfl) (.inl (by show (relS cSc termSc).names.lookup _ = _; decide +kernel)) (.inr (by show (relS cSc termSc).names.lookup _ = _; decide +kernel)))
    (fun s H C cl fp => (pe_callTy (X := (cxT CX P w K mg base f cdv A outer _ H0 E (a, oe)).blk s H cSc (compEnvC cSc cl C (cxT CX P w K mg base f cdv A outer _ H0 E (a, oe)).env) fp) call_int1 (show (relS cSc termSc).names.lookup ("int" : Str) = some .globalImplicit by decide +kernel) F.int boot_int (pa_cons (pe_var (i := 3) (by rfl) (.inl (show (relS cSc termSc).names.lookup ("flag" : Str) = some .local by decide +kernel))) pa_nil)).sub fun σ H Q ⟨b, e, q⟩ => ⟨.bl b, e, .inr ⟨b, rfl, q⟩⟩)
  refine (pe_callB (X := cxT CX P w K mg base f cdv A outer s H0 E (a, oe)) (sum_hotR hot) gl_sum F.sum boot_sum (pa_cons cmp pa_nil)).sub fun σ H Q ⟨q, bs, e0, e1, e2, hz, h⟩ => ?_
  refine ⟨q, bs, e1, e2, hz, by omega, fun D hD => ⟨D, bs.map fun b => if b then (1 : Int) else 0, rfl, SqL.of ?_, h D hD⟩⟩
  rw [upd_same, List.map_map]
  rfl
end
end Cr
set_option Elab.async false
set_option linter.all false
set_option maxRecDepth 100000
set_option maxHeartbeats 2000000
/-! The def that tells a refusal by its name: its body. -/
namespace Cr
open PySem PySem.Spec PyProof.Rows L2 HotX L2H
section
variable {CX : CXT} {P : Program} {w : World} {K : PySem.W.Frag} {mg : Str → Option Value} {base : Heap} {f : Addr} {cdv : Value} {A : Around} {outer : List PySem.Env} {s : Shared} {H0 : Hp} {E : XK} {a : Addr} {oe : Obj} {cn : Str} {l' c' n' : Nat} {L : Nat}
theorem ixOf_nat0 {n i : Nat} (h : i < n) : ixOf n (i : Int) = some i := by
  unfold ixOf
  simp [h]
/-- what is wanted behind it -/
def TermQ (cn : Str) (Q : VK) (H : Hp) : Prop := ∀ H' q, Up H H' → H q = none → H' q = some (.tup [.str "refused", .str cn]) → Q (.ref q) H'
theorem le_size {n : Nat} (h : n ≤ 100) : n ≤ sizeLine := Nat.le_trans h (by decide)
def isB (cn x : Str) : V := .bl (decide (x = cn))
theorem vf (p : Pos) : PE (cxT CX P w K mg base f cdv A outer s H0 E (a, oe)) (.Name "flags" p) (tVar 1) := pe_var (by rfl) (.inl lo_fl)
theorem vk (p : Pos) : PE (cxT CX P w K mg base f cdv A outer s H0 E (a, oe)) (.Name "kinds" p) (tVar 2) := pe_var (by rfl) (.inl lo_ki)
theorem ndT : (cxT CX P w K mg base f cdv A outer s H0 E (a, oe)).N.Nodup := by show termN.Nodup; decide +kernel
theorem lfT : L2.Loc (cxT CX P w K mg base f cdv A outer s H0 E (a, oe)).env.scope "flags" := .inl lo_fl
theorem lkT : L2.Loc (cxT CX P w K mg base f cdv A outer s H0 E (a, oe)).env.scope "kinds" := .inl lo_ki
theorem st1 (F : TermF K mg) (hc : cn ∈ toldN) (hz : Zc (.ref (He.ga K cn)) none oe) (hf : ∃ vs, oe.data = .fields vs) : PS (cxT CX P w K mg base f cdv A outer s H0 E (a, oe)) (tS1 L)
    (fun D σ H => σ[0]? = some (some (.ref a)) ∧ ∀ p, H p = none → D.nx (σ.set 1 (some (.ref p))) (upd H p (.lst [isB cn "BadMail", isB cn "BadLetter", isB cn "BadNumber", isB cn "BadOrder"]))) := by
  obtain ⟨m1, m2, m3, m4, m5, m6, m7, m8, m9, m10, m11⟩ := mem_told
  exact (ps_set (i := 1) ndT (by rfl) lfT (pe_lst (pa_cons (pe_isN F hc hz hf m1) (pa_cons (pe_isN F hc hz hf m2) (pa_cons (pe_isN F hc hz hf m3) (pa_cons (pe_isN F hc hz hf m4) pa_nil)))))).sub fun D σ H ⟨h0, h⟩ => ⟨h0, h0, h0, h0, le_size (n := 4) (by decide), h⟩
theorem st2 (F : TermF K mg) (hc : cn ∈ toldN) (hz : Zc (.ref (He.ga K cn)) none oe) (hf : ∃ vs, oe.data = .fields vs) : PS (cxT CX P w K mg base f cdv A outer s H0 E (a, oe)) (tS2 L)
    (fun D σ H => σ[0]? = some (some (.ref a)) ∧ ∃ q xs, σ[1]? = some (some (.ref q)) ∧ H q = some (.lst xs) ∧ xs.length ≤ 50 ∧ ∀ p r, H p = none → H r = none → p ≠ r → D.nx (σ.set 1 (some (.ref r))) (upd (upd H p (.lst [isB cn "BadPart", isB cn "BadRough", isB cn "BadDates"])) r (.lst (xs ++ [isB cn "BadPart", isB cn "BadRough", isB cn "BadDates"])))) := by
  obtain ⟨m1, m2, m3, m4, m5, m6, m7, m8, m9, m10, m11⟩ := mem_told
  refine (ps_set (i := 1) ndT (by rfl) lfT (pe_op op_cat (vf _) (pe_lst (pa_cons (pe_isN F hc hz hf m5) (pa_cons (pe_isN F hc hz hf m6) (pa_cons (pe_isN F hc hz hf m7) pa_nil)))))).sub fun D σ H ⟨h0, q, xs, h1, h2, h3, h⟩ => ?_
  refine ⟨.ref q, h1, h0, h0, h0, le_size (n := 3) (by decide), fun p np => ⟨q, p, xs, _, rfl, rfl, ?_, upd_same, Nat.le_trans (show _ ≤ 53 by simp; omega) (by decide), fun r nr => h p r np ?_ ?_⟩⟩
  · rw [upd_ne (ne_of_none h2 np)]; exact h2
  · cases e : H r with
    | none => rfl
    | some o => rw [upd_ne (ne_of_none e np), e] at nr; cases nr
  · intro z
    rw [← z, upd_same] at nr
    cases nr
theorem st3 (F : TermF K mg) (hc : cn ∈ toldN) (hz : Zc (.ref (He.ga K cn)) none oe) (hf : ∃ vs, oe.data = .fields vs) : PS (cxT CX P w K mg base f cdv A outer s H0 E (a, oe)) (tS3 L)
    (fun D σ H => σ[0]? = some (some (.ref a)) ∧ ∃ q xs, σ[1]? = some (some (.ref q)) ∧ H q = some (.lst xs) ∧ xs.length ≤ 50 ∧ ∀ p r, H p = none → H r = none → p ≠ r → D.nx (σ.set 1 (some (.ref r))) (upd (upd H p (.lst [isB cn "Nothing", isB cn "Full", isB cn "BadText"])) r (.lst (xs ++ [isB cn "Nothing", isB cn "Full", isB cn "BadText"])))) := by
  obtain ⟨m1, m2, m3, m4, m5, m6, m7, m8, m9, m10, m11⟩ := mem_told
  refine (ps_set (i := 1) ndT (by rfl) lfT (pe_op op_cat (vf _) (pe_lst (pa_cons (pe_isN F hc hz hf m8) (pa_cons (pe_isN F hc hz hf m9) (pa_cons (pe_isN F hc hz hf m10) pa_nil)))))).sub fun D σ H ⟨h0, q, xs, h1, h2, h3, h⟩ => ?_
  refine ⟨.ref q, h1, h0, h0, h0, le_size (n := 3) (by decide), fun p np => ⟨q, p, xs, _, rfl, rfl, ?_, upd_same, Nat.le_trans (show _ ≤ 53 by simp; omega) (by decide), fun r nr => h p r np ?_ ?_⟩⟩
  · rw [upd_ne (ne_of_none h2 np)]; exact h2
  · cases e : H r with
    | none => rfl
    | some o => rw [upd_ne (ne_of_none e np), e] at nr; cases nr
  · intro z
    rw [← z, upd_same] at nr
    cases nr
theorem st4 (F : TermF K mg) (hc : cn ∈ toldN) (hz : Zc (.ref (He.ga K cn)) none oe) (hf : ∃ vs, oe.data = .fields vs) : PS (cxT CX P w K mg base f cdv A outer s H0 E (a, oe)) (tS4 L)
    (fun D σ H => σ[0]? = some (some (.ref a)) ∧ ∃ q xs, σ[1]? = some (some (.ref q)) ∧ H q = some (.lst xs) ∧ xs.length ≤ 50 ∧ D.nx σ (upd H q (.lst (xs ++ [isB cn "BadFound"])))) := by
  obtain ⟨m1, m2, m3, m4, m5, m6, m7, m8, m9, m10, m11⟩ := mem_told
  refine (ps_expr (pe_bm PySem.F.plainAttrs_list PySem.F.slot_list_append PySem.F.type_list_append mt_append (vf _) (pa_cons (pe_isN F hc hz hf m11) pa_nil) (hline := by simp [at_]))).sub fun D σ H ⟨h0, q, xs, h1, h2, h3, h⟩ => ?_
  exact ⟨.ref q, h1, .inl ⟨rfl, xs, SqL.of h2⟩, h0, q, xs, _, rfl, rfl, h2, Nat.lt_of_le_of_lt h3 (by decide), h⟩
theorem st5 : PS (cxT CX P w K mg base f cdv A outer s H0 E (a, oe)) (tS5 L)
    (fun D σ H => ∀ p, H p = none → D.nx (σ.set 2 (some (.ref p))) (upd H p (.lst [.str "BadMail", .str "BadLetter", .str "BadNumber", .str "BadOrder", .str "BadPart", .str "BadRough", .str "BadDates"]))) :=
  (ps_set (i := 2) ndT (by rfl) lkT (pe_lst (pa_cons pe_str (pa_cons pe_str (pa_cons pe_str (pa_cons pe_str (pa_cons pe_str (pa_cons pe_str (pa_cons pe_str pa_nil))))))))).sub fun D σ H h => ⟨by decide, h⟩
theorem st6 : PS (cxT CX P w K mg base f cdv A outer s H0 E (a, oe)) (tS6 L)
    (fun D σ H => ∃ q xs, σ[2]? = some (some (.ref q)) ∧ H q = some (.lst xs) ∧ xs.length ≤ 50 ∧ ∀ p r, H p = none → H r = none → p ≠ r → D.nx (σ.set 2 (some (.ref r))) (upd (upd H p (.lst [.str "Nothing", .str "Full", .str "BadText", .str "BadFound"])) r (.lst (xs ++ [.str "Nothing", .str "Full", .str "BadText", .str "BadFound"])))) := by
  refine (ps_set (i := 2) ndT (by rfl) lkT (pe_op op_cat (vk _) (pe_lst (pa_cons pe_str (pa_cons pe_str (pa_cons pe_str (pa_cons pe_str pa_nil))))))).sub fun D σ H ⟨q, xs, h1, h2, h3, h⟩ => ?_
  refine ⟨.ref q, h1, by decide, fun p np => ⟨q, p, xs, _, rfl, rfl, ?_, upd_same, Nat.le_trans (show _ ≤ 54 by simp; omega) (by decide), fun r nr => h p r np ?_ ?_⟩⟩
  · rw [upd_ne (ne_of_none h2 np)]; exact h2
  · cases e : H r with
    | none => rfl
    | some o => rw [upd_ne (ne_of_none e np), e] at nr; cases nr
  · intro z
    rw [← z, upd_same] at nr
    cases nr
theorem st7 (F : TermF K mg) (hc : cn ∈ toldN) (hz : Zc (.ref (He.ga K cn)) none oe) (hf : ∃ vs, oe.data = .fields vs) (hot : HotC (cxT CX P w K mg base f cdv A outer s H0 E (a, oe))) : PS (cxT CX P w K mg base f cdv A outer s H0 E (a, oe)) (tS7 L)
    (fun D σ H => σ[0]? = some (some (.ref a)) ∧ ∃ (q : Addr) (bs : List Bool), σ.length = 4 ∧ σ[1]? = some (some (.ref q)) ∧ H q = some (.lst (bs.map .bl)) ∧ bs.length ≤ 50 ∧ (bs.map fun b => if b then (1 : Int) else 0).sum = 1 ∧ ∀ r, H r = none → D.nx σ (upd H r (.lst (bs.map b2i)))) := by
  have ive : ∀ l c n, PE (cxT CX P w K mg base f cdv A outer s H0 E (a, oe)) (isiE l c n "ValueError") (tIs a true) := fun l c n => pe_isi F hc hz hf (pe_bltn (X := cxT CX P w K mg base f cdv A outer s H0 E (a, oe)) (v := .ty "ValueError") gl_ve F.ve boot_ValueError rfl) (fun _ h => h) (F.kitV cn hc)
  refine (ps_if (PW.pt (pw_or (pt_cmpR op_ne (term_sum F hot) pe_int (by rfl)) (pw_or1 (pt_not (pt_val (ive _ _ _)))))) (pss_one (ps_ret (pe_tup (pa_cons pe_str (pa_cons pe_str pa_nil))))) pss_nil).sub fun D σ H ⟨h0, q, bs, hl, h1, h2, h3, hs, h⟩ => ?_
  refine ⟨q, bs, hl, h1, h2, Nat.lt_of_le_of_lt h3 (by decide), fun r nr => ?_⟩
  rw [hs]
  refine ⟨rfl, false, rfl, ?_⟩
  exact ⟨h0, true, rfl, h r nr⟩
theorem st8 : PS (cxT CX P w K mg base f cdv A outer s H0 E (a, oe)) (tS8 L)
    (fun D σ H => ∃ (q r : Addr) (bs : List Bool) (ks : List Str) (j : Nat) (c : Str), σ[1]? = some (some (.ref q)) ∧ σ[2]? = some (some (.ref r)) ∧ H q = some (.lst (bs.map .bl)) ∧ H r = some (.lst (ks.map .str)) ∧ bs[j]? = some true ∧ (∀ m, m < j → bs[m]? = some false) ∧ ks[j]? = some c ∧
      ∀ p, H p = none → D.rt (.ref p) (upd H p (.tup [.str "refused", .str c]))) := by
  refine (ps_ret (pe_tup (pa_cons pe_str (pa_cons (pe_ix ix_list (vk _) (pe_bm PySem.F.plainAttrs_list PySem.F.slot_list_index PySem.F.type_list_index mt_index (vf _) (pa_cons pe_bl pa_nil) (hline := by simp [at_])) (fun _ _ => rfl)) pa_nil)))).sub fun D σ H ⟨q, r, bs, ks, j, c, h1, h2, h3, h4, h5, h6, h7, h⟩ => ?_
  refine ⟨.ref r, h2, .ref q, h1, .inl ⟨rfl, _, SqL.of h3⟩, q, bs.map .bl, .bl true, j, .bl true, rfl, rfl, SqL.of h3, rfl, ?_, by rw [List.getElem?_map, h5]; rfl, rfl, fun m z hm hz => ?_, r, ks.map .str, j, .str c, rfl, rfl, SqL.of h4, ?_, le_size (n := 2) (by decide), h⟩
  · simp [flatV]
  · rw [List.getElem?_map, h6 m hm] at hz
    cases hz
    rfl
  · have hl := (List.getElem?_eq_some_iff.mp h7).1
    unfold atI
    rw [List.length_map, ← ixOf_eq, ixOf_nat0 hl]
    show (ks.map V.str)[j]? = _
    rw [List.getElem?_map, h7]
    rfl
end
end Cr
set_option Elab.async false
set_option linter.all false
set_option maxRecDepth 100000
set_option maxHeartbeats 2000000
/-! The def that tells a refusal by its name: called. -/
namespace Cr
open PySem PySem.Spec PyProof.Rows L2 HotX L2H
theorem isB_all (cn : Str) : [isB cn "BadMail", isB cn "BadLetter", isB cn "BadNumber", isB cn "BadOrder"] ++ [isB cn "BadPart", isB cn "BadRough", isB cn "BadDates"] ++ [isB cn "Nothing", isB cn "Full", isB cn "BadText"] ++ [isB cn "BadFound"] = (flagsOf cn).map V.bl := rfl
theorem kinds_all : ([.str "BadMail", .str "BadLetter", .str "BadNumber", .str "BadOrder", .str "BadPart", .str "BadRough", .str "BadDates"] ++ [.str "Nothing", .str "Full", .str "BadText", .str "BadFound"] : List V) = toldN.map V.str := rfl
section
variable {CX : CXT} {P : Program} {w : World} {K : PySem.W.Frag} {mg : Str → Option Value} {base : Heap} {f : Addr} {cdv : Value} {A : Around} {outer : List PySem.Env} {s : Shared} {H0 : Hp} {E : XK} {a : Addr} {oe : Obj} {cn : Str} {l' c' n' : Nat} {L : Nat}
theorem term_body (F : TermF K mg) (hc : cn ∈ toldN) (hz : Zc (.ref (He.ga K cn)) none oe) (hf : ∃ vs, oe.data = .fields vs) (hot : HotC (cxT CX P w K mg base f cdv A outer s H0 E (a, oe))) {Q : VK} {H : Hp} (hq : TermQ cn Q H) :
    ∃ t, PSs (cxT CX P w K mg base f cdv A outer s H0 E (a, oe)) (termB L) t ∧ t { nx := fun _ H' => Q .non H', rt := Q } (L2.start termN [.ref a]) H := by
  refine ⟨_, pss_cons (st1 F hc hz hf) (pss_cons (st2 F hc hz hf) (pss_cons (st3 F hc hz hf) (pss_cons (st4 F hc hz hf) (pss_cons st5 (pss_cons st6 (pss_cons (st7 F hc hz hf hot) (pss_one st8))))))), ?_⟩
  refine ⟨rfl, fun p1 n1 => ?_⟩
  have u1 : Up H (upd H p1 (.lst [isB cn "BadMail", isB cn "BadLetter", isB cn "BadNumber", isB cn "BadOrder"])) := (Up.refl H).new n1
  generalize hH1 : upd H p1 (.lst [isB cn "BadMail", isB cn "BadLetter", isB cn "BadNumber", isB cn "BadOrder"]) = H1 at u1
  refine ⟨rfl, p1, [isB cn "BadMail", isB cn "BadLetter", isB cn "BadNumber", isB cn "BadOrder"], rfl, by rw [← hH1, upd_same], (by simp), fun p2 p3 n2 n3 d23 => ?_⟩
  have u3 : Up H (upd (upd H1 p2 (.lst [isB cn "BadPart", isB cn "BadRough", isB cn "BadDates"])) p3 (.lst ([isB cn "BadMail", isB cn "BadLetter", isB cn "BadNumber", isB cn "BadOrder"] ++ [isB cn "BadPart", isB cn "BadRough", isB cn "BadDates"]))) := (u1.new n2).new (by rw [upd_ne (Ne.symm d23)]; exact n3)
  generalize hH3 : upd (upd H1 p2 (.lst [isB cn "BadPart", isB cn "BadRough", isB cn "BadDates"])) p3 (.lst ([isB cn "BadMail", isB cn "BadLetter", isB cn "BadNumber", isB cn "BadOrder"] ++ [isB cn "BadPart", isB cn "BadRough", isB cn "BadDates"])) = H3 at u3
  refine ⟨rfl, p3, _, rfl, by rw [← hH3, upd_same], (by simp), fun p4 p5 n4 n5 d45 => ?_⟩
  have n4' : upd H3 p4 (.lst [isB cn "Nothing", isB cn "Full", isB cn "BadText"]) p5 = none := by rw [upd_ne (Ne.symm d45)]; exact n5
  have u5 : Up H (upd (upd H3 p4 (.lst [isB cn "Nothing", isB cn "Full", isB cn "BadText"])) p5 (.lst ([isB cn "BadMail", isB cn "BadLetter", isB cn "BadNumber", isB cn "BadOrder"] ++ [isB cn "BadPart", isB cn "BadRough", isB cn "BadDates"] ++ [isB cn "Nothing", isB cn "Full", isB cn "BadText"]))) := (u3.new n4).new n4'
  generalize hH5 : upd (upd H3 p4 (.lst [isB cn "Nothing", isB cn "Full", isB cn "BadText"])) p5 (.lst ([isB cn "BadMail", isB cn "BadLetter", isB cn "BadNumber", isB cn "BadOrder"] ++ [isB cn "BadPart", isB cn "BadRough", isB cn "BadDates"] ++ [isB cn "Nothing", isB cn "Full", isB cn "BadText"])) = H5 at u5
  refine ⟨rfl, p5, _, rfl, by rw [← hH5, upd_same], (by simp), ?_⟩
  rw [isB_all]
  have u6 : Up H (upd H5 p5 (.lst ((flagsOf cn).map V.bl))) := u5.mine (u3.free n5)
  have e6 : upd H5 p5 (.lst ((flagsOf cn).map V.bl)) p5 = some (.lst ((flagsOf cn).map V.bl)) := upd_same
  generalize upd H5 p5 (.lst ((flagsOf cn).map V.bl)) = H6 at u6 e6
  intro p7 n7
  have u7 := u6.new (o := .lst [.str "BadMail", .str "BadLetter", .str "BadNumber", .str "BadOrder", .str "BadPart", .str "BadRough", .str "BadDates"]) n7
  have e7 : upd H6 p7 (.lst [.str "BadMail", .str "BadLetter", .str "BadNumber", .str "BadOrder", .str "BadPart", .str "BadRough", .str "BadDates"]) p5 = some (.lst ((flagsOf cn).map V.bl)) := by rw [upd_ne (ne_of_none e6 n7)]; exact e6
  have k7 : upd H6 p7 (.lst [.str "BadMail", .str "BadLetter", .str "BadNumber", .str "BadOrder", .str "BadPart", .str "BadRough", .str "BadDates"]) p7 = some (.lst [.str "BadMail", .str "BadLetter", .str "BadNumber", .str "BadOrder", .str "BadPart", .str "BadRough", .str "BadDates"]) := upd_same
  generalize upd H6 p7 (.lst [.str "BadMail", .str "BadLetter", .str "BadNumber", .str "BadOrder", .str "BadPart", .str "BadRough", .str "BadDates"]) = H7 at u7 e7 k7
  refine ⟨p7, _, rfl, k7, by decide, fun p8 p9 n8 n9 d89 => ?_⟩
  rw [kinds_all]
  have n9' : upd H7 p8 (.lst [.str "Nothing", .str "Full", .str "BadText", .str "BadFound"]) p9 = none := by rw [upd_ne (Ne.symm d89)]; exact n9
  have u9 := (u7.new (o := .lst [.str "Nothing", .str "Full", .str "BadText", .str "BadFound"]) n8).new (o := .lst (toldN.map V.str)) n9'
  have e9 : upd (upd H7 p8 (.lst [.str "Nothing", .str "Full", .str "BadText", .str "BadFound"])) p9 (.lst (toldN.map V.str)) p5 = some (.lst ((flagsOf cn).map V.bl)) := by rw [upd_ne (ne_of_none e7 n9), upd_ne (ne_of_none e7 n8)]; exact e7
  have k9 : upd (upd H7 p8 (.lst [.str "Nothing", .str "Full", .str "BadText", .str "BadFound"])) p9 (.lst (toldN.map V.str)) p9 = some (.lst (toldN.map V.str)) := upd_same
  generalize upd (upd H7 p8 (.lst [.str "Nothing", .str "Full", .str "BadText", .str "BadFound"])) p9 (.lst (toldN.map V.str)) = H9 at u9 e9 k9
  refine ⟨rfl, p5, flagsOf cn, rfl, rfl, e9, by simp [flagsOf, toldN], flags_sum cn hc, fun r nr => ?_⟩
  obtain ⟨j, j1, j2, j3, j4⟩ := flags_at cn hc
  refine ⟨p5, p9, flagsOf cn, toldN, j, cn, rfl, rfl, by rw [upd_ne (ne_of_none e9 nr)]; exact e9, by rw [upd_ne (ne_of_none k9 nr)]; exact k9, j1, j2, j3, fun p np => ?_⟩
  have u10 := u9.new (o := .lst ((flagsOf cn).map b2i)) nr
  exact hq _ p (u10.new np) (u10.free np) upd_same
theorem term_scope : FnScope termN ["e"] termSc := ⟨rfl, rfl, rfl, by decide +kernel, rfl, by decide +kernel, by decide +kernel⟩
/-- the call -/
theorem term_run {params : Arguments} {dV kV doc pm ct oc : Value} {an od : Option Addr} {osl : Array (Option Value)} (lk : K.lookup f = some ⟨oc, od, .func (PySem.W.fnOf "_law_term" "_law_term" params (termB L) termSc dV kV doc pm an cdv ct), osl⟩) (hcd : PySem.W.codeIn K cdv "_law_term" = true)
    (F : TermF K mg) (hc : cn ∈ toldN) (hz : Zc (.ref (He.ga K cn)) none oe) (hf : ∃ vs, oe.data = .fields vs) (hot : Hot1 A (a, oe)) (hpin : PinOk outer H0 s (a, oe)) (hd : A.depth < recursionLimit) (e0 : Env0 P w K mg base A outer s H0)
    (hb : BindsTo s (PySem.W.fnOf "_law_term" "_law_term" params (termB L) termSc dV kV doc pm an cdv ct) ⟨[.ref a], []⟩ [(("e" : Str), .ref a)]) {Q : VK} (hq : TermQ cn Q H0) :
    codeAny (model P w) A (.call (.ref f) ⟨[.ref a], []⟩) (CR CX outer P w H0 s Q E) s := by
  have KX : K.In s.heap := e0.mod.kin.keeps fun b o e => (e0.bs b o e).1
  have lim : s.heap.NoLimit := e0.mod.nolimit.keeps fun b o e => (e0.bs b o e).1
  refine codeAny_call_function hd (KX _ _ lk) rfl rfl rfl rfl (PySem.W.codeRec_of KX hcd) (hb _ _ _ _ (wpAny_newFunctionEnv_cells rfl (fun y hy => ?_) fun env he s1 x => ?_))
  · have e : y = (("e" : Str), Value.ref a) := by simpa using hy
    rw [e]
    exact .inl lo_e
  · subst he
    refine ⟨lim.keeps x.toInCall.keep, codeAny_func ?_⟩
    have hotC : HotC (cxT CX P w K mg base f cdv A outer s H0 E (a, oe)) := ⟨(a, oe), ⟨hot.1, hot.2⟩, List.mem_cons_self⟩
    obtain ⟨t, ht, hq'⟩ := term_body (L := L) F hc hz hf hotC hq
    have I : Inv (cxT CX P w K mg base f cdv A outer s H0 E (a, oe)) [] (L2.start termN [.ref a]) H0 s1 := inv_startH (us := [.ref a]) term_scope hpin e0 rfl (.cons rfl .nil) x
    refine wpAny_mono (ht.run [] s1 _ H0 _ I hq') (fun fl s2 h2 => ?_) fun e s2 h2 => h2
    cases fl with
    | ret u =>
      obtain ⟨v, σ2, H2, J, rv, q⟩ := h2
      exact ⟨v, H2, J.os, J.bare, J.base, J.hok, rv, q⟩
    | next =>
      obtain ⟨σ2, H2, J, q⟩ := h2
      exact ⟨V.non, H2, J.os, J.bare, J.base, J.hok, rfl, q⟩
    | brk => exact h2.elim fun _ z => z.elim fun _ z => z.2.elim
    | cont => exact h2.elim fun _ z => z.elim fun _ z => z.2.elim
end
end Cr
set_option Elab.async false
set_option linter.all false
set_option maxRecDepth 100000
set_option maxHeartbeats 2000000
/-! A lambda handed to the def that tells. -/
namespace Cr
open PySem PySem.Spec PyProof.Rows L2 HotX L2H
/-- the lambda's body: its context, exceptions told with their contexts -/
def lamN (X : Cx) (A : Around) (outer : List PySem.Env) (s : Shared) (H : Hp) (E : XK) (scope : Scope) (f c' : Addr) : Cx :=
  (LamX.lamCx X A outer s H E scope f c').wish fun e s' => wpAny (model X.prog X.w) (A.deeper (LamX.lamEnv X scope s.heap.objs.size f c')) (leaving (LamX.lamEnv X scope s.heap.objs.size f c') e) (fun _ s'' => L2N.CX X.prog X.w outer H s E e s'') (fun e' s'' => L2N.CX X.prog X.w outer H s E e' s'') s'
abbrev toldNm : List Str := ["deed", "e"]
abbrev cxG (X : Cx) (g : Addr) (cdg : Value) (s : Shared) (H : Hp) : Cx := cxOf C8.CX0 X.prog X.w X.K X.mg X.base toldNm "_law_told" toldSc g cdg X.A X.stack s H C8.E0
abbrev envG (g : Addr) (cdg : Value) (s : Shared) : PySem.Env := envOfC "_law_told" toldSc s.heap.objs.size g cdg
theorem lo_deed : toldSc.names.lookup ("deed" : Str) = some .local := by decide +kernel
theorem lo_e2 : toldSc.names.lookup ("e" : Str) = some .local := by decide +kernel
theorem gl_me : toldSc.names.lookup ("MailError" : Str) = some .globalImplicit := by decide +kernel
theorem gl_lt : toldSc.names.lookup ("_law_term" : Str) = some .globalImplicit := by decide +kernel
section
variable {X : Cx} {pins : List (Addr × Obj)} {σ : L2.St} {H : Hp} {s : Shared}
/-- deed(), in the def that got the lambda -/
theorem pe_deed {g f c' : Addr} {cdg pm ctv : Value} {params : Arguments} {body : Expr} {scope : Scope} {k : Nat} {pn : List (Addr × Obj)} {xe : Value → Shared → Prop} {W : WX} {E : XK} {tb : TE} {p1 p2 : Pos}
    (I : Inv X pins σ H s) (L : LamX.LamS X.env.scope scope) (hf : s.heap.get? f = some (PySem.W.kla_obj "<lambda>" (X.env.qual ++ "<lambda>") params body scope (cloFrom X.env.cells scope.names []) pm c' ctv)) (hfn : H f = none) (hfr : f ∉ frs X.stack)
    (hbind : bindArgs (PySem.W.kla_fn "<lambda>" (X.env.qual ++ "<lambda>") params body scope (cloFrom X.env.cells scope.names []) pm (.ref c') ctv) ⟨[], []⟩ = pure [])
    (tk : L2N.Takes ((cxG X g cdg s H).tr pn xe) W) (hW : ∀ cls d (σ' : L2.St) H', σ'.length = 2 → E cls d H' → W cls d σ' H') (hr : Room (k + 1) (X.A.deeper (envG g cdg s)))
    (hbody : ∀ (A : Around) (outer : List PySem.Env) (s : Shared) (H : Hp), Room k (A.deeper (LamX.lamEnv X scope s.heap.objs.size f c')) → PE (lamN X A outer s H E scope f c') body tb) :
    PE ((cxG X g cdg s H).tr pn xe) (.Call (.Name "deed" p1) [] [] p2) (fun σZ HZ Q => σZ[0]? = some (some (.ref f)) ∧ HZ c' = some (LamX.CodeO c' (X.env.qual ++ "<lambda>")) ∧ tb σ HZ Q) := by
  refine ⟨fun pinsZ sZ σZ HZ Q IZ ⟨hs, hc, ht⟩ => ?_⟩
  have pv : PE ((cxG X g cdg s H).tr pn xe) (.Name "deed" p1) (tVar 0) := pe_var (by rfl) (.inl lo_deed)
  refine wpAny_Call_Name_kw (thn (pv.run pinsZ sZ σZ HZ (fun v H1 => v = .ref f ∧ H1 = HZ) IZ ⟨.ref f, hs, rfl, rfl⟩) fun u s1 hx => ?_)
  obtain ⟨v, H1, I1, r1, ev, eH⟩ := hx
  subst ev eH
  obtain rfl : u = Value.ref f := r1
  have of1 := I1.base.keep f _ hf hfn hfr (fun z => nomatch (show f ∈ ([] : List Addr) from z))
  have un : Un (frs X.stack) [] H H1 s.heap s1.heap := I1.base
  obtain ⟨⟨oc, vs, t, hoc, hdc, hvc⟩, _, _⟩ := I1.hok c' _ hc
  have run : codeAny (model X.prog X.w) (X.A.deeper (envG g cdg s)) (.call (.ref f) ⟨[], []⟩) (CR (L2N.CX X.prog X.w) (envG g cdg s :: X.stack) X.prog X.w H1 s1 Q E) s1 := by
    refine PySem.W.kla_callFunE hr.depth of1 rfl L.co L.gen rfl ⟨c', oc, vs, t, rfl, hoc, hdc, hvc⟩ ?_
    rw [hbind]
    refine wpAny_pure (wpAny_newFunctionEnv (fun y hy => (L.own y hy).2) (fun y hy => absurd hy (by simp)) (fun h1 hns hsb => ⟨I1.nolimit.fresh _ hsb, ?_⟩) L.kind)
    have kp : ∀ b o, s1.heap.get? b = some o → h1.get? b = some o := fun b o e => hsb.extBut b o (Nat.ne_of_lt (Heap.lt_size e)) (Heap.get?_push_of_some _ e)
    have J0 := LamX.lam_start2 (X := X) (A := X.A.deeper (envG g cdg s)) (outer := envG g cdg s :: X.stack) (E := E) (f := f) (c' := c') (tk := s1.toks + ([] : List (Str × Value)).length) I L I1.env0 hr.hd un hns kp
    have J : Inv (lamN X (X.A.deeper (envG g cdg s)) (envG g cdg s :: X.stack) s1 H1 E scope f c') [] σ H1 { s1 with heap := h1, toks := s1.toks + ([] : List (Str × Value)).length } := J0.wish _
    show codeAny _ _ (.expr body (LamX.lamEnv X scope s1.heap.objs.size f c')) _ _
    refine PySem.W.kla_codeExpr (wpAny_mono ((hbody _ _ s1 H1 (hr.deeper _)).run [] _ _ H1 Q J ht) (fun v s' hq => ?_) fun e s' hq => hq)
    obtain ⟨w', H', J', rv, q⟩ := hq
    exact ⟨w', H', J'.os, J'.bare, J'.base, J'.hok, rv, q⟩
  refine PySem.W.callWith_F0 ⟨_, _, _, _, of1⟩ (wpAny_call (codeAny_mono run fun r s' hq => ?_))
  cases r with
  | error e => exact tk e s' (L2N.XE.of_call I1 (fun cls d H' h => hW cls d σZ H' I1.len h) hq)
  | ok fl =>
    cases fl with
    | ret u => exact I1.after hq
    | next => exact hq.elim
    | brk => exact hq.elim
    | cont => exact hq.elim
/-- what is wished of an exception of the lambda's body -/
def ToldE (K : PySem.W.Frag) (Q : VK) : XK := fun cls d H' => d = none ∧ ∃ c ∈ toldN, cls = .ref (He.ga K c) ∧ TermQ c Q H'
/-- the defs that tell -/
structure ToldF (K : PySem.W.Frag) (mg : Str → Option Value) : Prop where
  T : TermF K mg
  me : mg "MailError" = some (.ref (He.ga K "MailError"))
  exm : ∀ c ∈ toldN, PySem.W.exmOne K (.ref (He.ga K c)) (.ref (He.ga K "MailError")) = some true
  term : ∃ (L : Nat) (f : Addr) (params : Arguments) (dV kV doc pm cdv ct oc : Value) (an od : Option Addr) (osl : Array (Option Value)), mg "_law_term" = some (.ref f) ∧ PySem.W.keepIn K (.ref f) = true ∧
    K.lookup f = some ⟨oc, od, .func (PySem.W.fnOf "_law_term" "_law_term" params (termB L) termSc dV kV doc pm an cdv ct), osl⟩ ∧ PySem.W.codeIn K cdv "_law_term" = true ∧ L2.Binds K (PySem.W.fnOf "_law_term" "_law_term" params (termB L) termSc dV kV doc pm an cdv ct) ["e"] []
  told : ∃ (L : Nat) (g : Addr) (params : Arguments) (dV kV doc pm cdv ct oc : Value) (an od : Option Addr) (osl : Array (Option Value)), mg "_law_told" = some (.ref g) ∧ PySem.W.keepIn K (.ref g) = true ∧
    K.lookup g = some ⟨oc, od, .func (PySem.W.fnOf "_law_told" "_law_told" params (toldB L) toldSc dV kV doc pm an cdv ct), osl⟩ ∧ PySem.W.codeIn K cdv "_law_told" = true ∧ L2.Binds K (PySem.W.fnOf "_law_told" "_law_told" params (toldB L) toldSc dV kV doc pm an cdv ct) ["deed"] []
theorem told_scope : FnScope toldNm ["deed"] toldSc := ⟨rfl, rfl, rfl, by decide +kernel, rfl, by decide +kernel, by decide +kernel⟩
/-- _law_term(e), in the suite -/
theorem pe_term {Z : Cx} (F : ToldF Z.K Z.mg) (hsc : Z.env.scope = toldSc) (hN : Z.N = toldNm) (hd : Z.A.depth < recursionLimit) {a : Addr} {oe : Obj} {pn : List (Addr × Obj)} {cls : Value} {d : Option Addr} (hz : L2N.Zn cls d oe) (hf : ∃ vs, oe.data = .fields vs) {p1 p2 p3 : Pos} :
    PE (Z.suite a ((a, oe) :: pn)) (.Call (.Name "_law_term" p1) [.Name "e" p2] [] p3) (fun σ H Q => d = none ∧ σ[1]? = some (some (.ref a)) ∧ ∃ c ∈ toldN, cls = .ref (He.ga Z.K c) ∧ TermQ c Q H) := by
  refine ⟨fun pins s σ H Q I ⟨ed, hs, c, hc, ec, hq⟩ => ?_⟩
  subst ed ec
  obtain ⟨L, f, params, dV, kV, doc, pm, cdv, ct, oc, an, od, osl, m1, m2, lk, hcd, hb⟩ := F.term
  have pv : PE (Z.suite a ((a, oe) :: pn)) (.Name "e" p2) (tVar 1) := pe_var (show (Z.N)[1]? = _ by rw [hN]; rfl) (.inl (show Z.env.scope.names.lookup ("e" : Str) = _ by rw [hsc]; exact lo_e2))
  refine wpAny_Call_Name_kw (ld_glob I (show Z.env.scope.names.lookup ("_law_term" : Str) = _ by rw [hsc]; exact gl_lt) m1 ?_)
  refine PySem.W.callWith_K (h₀ := Z.base) I.ok.mod.kin m2 (thn ((pa_cons pv pa_nil).run p3 pins s σ H (fun vs H1 => vs = [V.ref a] ∧ H1 = H) I ⟨.ref a, hs, rfl, rfl⟩) fun us s1 hx => ⟨hx.elim fun _ z => z.elim fun _ z => z.1.kIn, ?_⟩)
  obtain ⟨vs, H1, I1, r, ev, eH⟩ := hx
  subst ev eH
  cases r with
  | cons rx rr =>
    cases rr; cases rx
    have P1 := I1.pin (a, oe) (List.mem_append_left _ List.mem_cons_self)
    have hpin : PinOk Z.stack H1 s1 (a, oe) := ⟨P1.1, P1.2.1, fun hm => (List.mem_cons.mp (I1.stkSub a hm)).elim P1.2.2.1 P1.2.2.2.1, P1.2.2.2.2⟩
    obtain ⟨vz, hv⟩ := hf
    have hot : Hot1 (Z.A.mark (some (.ref a))) (a, oe) := ⟨rfl, vz, hv, hz.2.2 vz hv⟩
    have b := hb s1 [.ref a] I1.kIn rfl
    refine wpAny_call (codeAny_mono (term_run (CX := C8.CX0) (E := C8.E0) lk hcd F.T hc hz.zc ⟨vz, hv⟩ hot hpin hd I1.env0 b hq) fun r s2 hq => ?_)
    cases r with
    | error e => exact (show False from hq).elim
    | ok fl =>
      cases fl with
      | ret u => exact I1.after hq
      | next => exact hq.elim
      | brk => exact hq.elim
      | cont => exact hq.elim
end
end Cr
set_option Elab.async false
set_option linter.all false
set_option maxRecDepth 100000
set_option maxHeartbeats 2000000
/-! _law_told(lambda: ..) -/
namespace Cr
open PySem PySem.Spec PyProof.Rows L2 HotX L2H
theorem bind_none (q : Str) (cl : List (Str × Addr)) (pm cv ctv : Value) (body : Expr) (scope : Scope) : bindArgs (PySem.W.kla_fn "<lambda>" q ⟨[], [], none, [], [], none, []⟩ body scope cl pm cv ctv) ⟨[], []⟩ = pure [] := rfl
theorem takesF {X : Cx} : L2N.Takes X (fun _ _ _ _ => False) := fun _ _ x => by
  obtain ⟨_, _, _, _, _, _, _, _, _, _, _, _, _, _, _, _, z⟩ := x
  exact z.elim
section
variable {X : Cx}
theorem pe_told {T : List (Addr × Str)} {c P : Addr} {k : Nat} {body : Expr} {scope : Scope} {t : XK → TE} {p lpos pos : Pos} (hg : Gl X "_law_told") (F : ToldF X.K X.mg) (TB : LamX.TabB X.base X.mg c P) (hcode : X.env.code = .ref c) (hmT : (P, X.env.qual ++ "<lambda>") ∈ T) (hu : ∀ p ∈ T, p.1 = P → p.2 = X.env.qual ++ "<lambda>")
    (hr : Room (k + 2) X.A) (L : LamX.LamS X.env.scope scope) (hbody : ∀ (A : Around) (outer : List PySem.Env) (s : Shared) (H : Hp) (E : XK) (f c' : Addr), Room k (A.deeper (LamX.lamEnv X scope s.heap.objs.size f c')) → PE (lamN X A outer s H E scope f c') body (t E)) :
    PE X (.Call (.Name "_law_told" p) [.Lambda ⟨[], [], none, [], [], none, []⟩ body scope lpos] [] pos) (fun σ H Q => LamX.Tabs T H ∧ ∀ H1, LamX.ExtN H H1 → LamX.Tabs T H1 → t (ToldE X.K Q) σ H1 Q) := by
  refine ⟨fun pins s σ H Q I ⟨hT, h⟩ => ?_⟩
  obtain ⟨Ln, g, params, dV, kV, doc, pm, cdg, ct, oc, an, od, osl, m1, m2, lk, hcg, hb⟩ := F.told
  refine wpAny_Call_Name_kw (ld_glob I hg m1 (PySem.W.callWith_K (h₀ := X.base) I.ok.mod.kin m2 ?_ (by rfl) (by rfl)))
  show wpAny _ _ (spliced ((false, eval (.Lambda ⟨[], [], none, [], [], none, []⟩ body scope lpos) X.env) :: backTo pos (starEach [] X.env))) _ _ s
  refine Calls.spliced_cons (LamX.lam_make2 I TB hcode hmT hu hT rfl (L.has I.ok) fun f c' pm' ctv H1 s' I1 eN T1 hf hfn hfr hco => Calls.spliced_nil ⟨I1.kIn, ?_⟩)
  have hz := h H1 eN T1
  have rc : codeAny (model X.prog X.w) X.A (.call (.ref g) ⟨[.ref f], []⟩) (CR C8.CX0 X.stack X.prog X.w H1 s' Q C8.E0) s' := by
    refine LamX.run_ofS (N := toldNm) (ps := ["deed"]) (us := [.ref f]) (vs := [.ref f]) lk hcg told_scope hr I1.env0 (hb s' [.ref f] I1.kIn rfl) (.cons rfl .nil) rfl fun hr' => ?_
    refine ⟨_, pss_one (L2N.ps_try_as (X := cxG X g cdg s' H1) (i := 1) (x := "MailError") (n := "e") (c := .ref (He.ga X.K "MailError")) (Wout := fun _ _ _ _ => False)
      (tb := fun W D σZ HZ => ∃ Ech : XK, (∀ cls d (σ' : L2.St) H', σ'.length = 2 → Ech cls d H' → W cls d σ' H') ∧ σZ[0]? = some (some (.ref f)) ∧ HZ c' = some (LamX.CodeO c' (X.env.qual ++ "<lambda>")) ∧ t Ech σ HZ D.rt)
      (ts := fun a cls d D σ' H' => d = none ∧ σ'[1]? = some (some (.ref a)) ∧ ∃ c ∈ toldN, cls = .ref (He.ga X.K c) ∧ TermQ c D.rt H')
      rfl rfl (by show toldNm.Nodup; decide +kernel) (by rfl) lo_e2 ⟨gl_me, by decide, .inl F.me⟩ takesF (fun W pn xe tk _ => ⟨fun pins2 s2 σ2 H2 D I2 h2 => ?_⟩) (fun a oe cls d pn hz2 hf2 => pss_one (ps_ret (pe_term (Z := cxG X g cdg s' H1) F rfl rfl hr'.depth hz2 hf2)))), ?_⟩
    · obtain ⟨Ech, hW, h1, h2', h3⟩ := h2
      have hp := pe_deed (p1 := at_ (Ln + 2) 15 19) (p2 := at_ (Ln + 2) 15 21) (tb := t Ech) (E := Ech) I1 L hf hfn hfr (bind_none _ _ _ _ _ _ _) tk hW hr' (fun A outer s H hr2 => hbody A outer s H Ech f c' hr2)
      exact (pss_one (ps_ret (pos := at_ (Ln + 2) 8 21) hp)).run pins2 s2 σ2 H2 D I2 ⟨h1, h2', h3⟩
    · refine ⟨ToldE X.K Q, fun cls d σ' H' hl ⟨ed, cc, hcc, ec, tq⟩ => ?_, rfl, hco, hz⟩
      subst ed ec
      exact ⟨true, F.exm cc hcc, fun _ a na => ⟨rfl, List.getElem?_set_self (by rw [hl]; decide), cc, hcc, rfl, tq⟩, fun z => by cases z⟩
  refine wpAny_call (codeAny_mono rc fun r s2 hq => ?_)
  cases r with
  | error e => exact (show False from hq).elim
  | ok fl =>
    cases fl with
    | ret u => exact I1.after hq
    | next => exact hq.elim
    | brk => exact hq.elim
    | cont => exact hq.elim
end
end Cr
set_option Elab.async false
set_option linter.all false
set_option maxRecDepth 100000
set_option maxHeartbeats 2000000
/-! _law_told(lambda: ..): what the abstract one answers, the model does. -/
namespace Cr
open PySem PySem.Spec PyProof.Rows L2 HotX L2H
/-- where lambdas may be made -/
def LamAt (T : Hp → Prop) (mg : Str → Option Value) (base : Heap) (X : Cx) : Prop := ∃ (TL : List (Addr × Str)) (c P : Addr), T = LamX.Tabs TL ∧ LamX.TabB base mg c P ∧ X.env.code = .ref c ∧ (P, X.env.qual ++ "<lambda>") ∈ TL ∧ ∀ p ∈ TL, p.1 = P → p.2 = X.env.qual ++ "<lambda>"
section
variable {K : PySem.W.Frag} {T : Hp → Prop} {α : Al} {h : AH} {H H1 : Hp}
theorem cell_plain {a : Addr} : ∀ {c : Cell}, CellR K α H a c → ∃ o, H a = Option.some o ∧ ∀ ps, o ≠ HO.tbl ps
  | .lst _, ⟨_, h, _⟩ => ⟨_, h, fun _ z => by cases z⟩
  | .dct false _, ⟨_, h, _⟩ => ⟨_, h, fun _ z => by cases z⟩
  | .dct true _, ⟨_, _, h, _⟩ => ⟨_, h, fun _ z => by cases z⟩
  | .ins _ _, ⟨_, _, h, _⟩ => ⟨_, h, fun _ z => by cases z⟩
theorem Sim.extN (S : Sim K T α h H) (e : LamX.ExtN H H1) (t : T H1) : Ext α α H H1 ∧ Sim K T α h H1 := by
  have hh : ∀ a, a ∈ α.hid → H1 a = H a := fun a ha => by
    obtain ⟨_, vs, q⟩ := S.hd a ha
    rw [q]
    exact e a _ q fun _ z => by cases z
  have e0 : Ext0 α α H H1 := ⟨fun _ _ h => h, fun a o q _ ht => e a o q ht, fun _ h => .inl h, rfl⟩
  refine ⟨⟨e0, rfl, hh⟩, S.len, S.nd, fun n a c e1 e2 => ?_, t, fun a ha => ?_, S.kf⟩
  · have cr := S.cell n a c e1 e2
    obtain ⟨o, q, ht⟩ := cell_plain cr
    exact cr.mono e0 (by rw [q]; exact e a o q ht)
  · obtain ⟨q1, vs, q2⟩ := S.hd a ha
    exact ⟨q1, vs, (hh a ha).trans q2⟩
theorem extN_up (u : Up H H1) : LamX.ExtN H H1 := fun b o q _ => u b o q
end
section
variable {P : Program} {w : World} {K : PySem.W.Frag} {mg : Str → Option Value} {base : Heap} {T : Hp → Prop} {k : Nat} {C : CC} {E : XK} {X : Cx} {scope : Scope} {body : Expr} {p lpos pos : Pos} {B : Env → M D}
theorem Good.lamN (G : Good P w K mg base k C E X) (L : LamX.LamS X.env.scope scope) (A : Around) (outer : List PySem.Env) (s : Shared) (H : Hp) (E' : XK) (f c' : Addr) (hr : Room (5 * k + 2) (A.deeper (LamX.lamEnv X scope s.heap.objs.size f c'))) :
    Good P w K mg base k (lamCC C scope) E' (lamN X A outer s H E' scope f c') := by
  refine ⟨G.pr, G.wo, G.fr, G.gl, G.bs, G.na, rfl, G.nd, rfl, hr, L2N.takes_of rfl rfl rfl rfl, passes_of rfl, fun x hx => ?_, L.kind⟩
  have hx : locB scope x = true := hx
  unfold locB at hx
  split at hx
  · rename_i e; exact absurd rfl (L.own _ (PySem.mem_of_lookup e)).1
  · rename_i e; exact absurd rfl (L.own _ (PySem.mem_of_lookup e)).2
  · cases hx
theorem se_told (G : Good P w K mg base k C E X) (hl : C.lam = true) (LA : LamAt T mg base X) (F : ToldF K mg) (hg : isGlo C "_law_told" = true) (hs : LamX.lamSB C.sc scope = true)
    (hb : ∀ {E' : XK} {X' : Cx}, Good P w K mg base k (lamCC C scope) E' X' → PE X' body (tF K T E' B)) :
    PE X (.Call (.Name "_law_told" p) [.Lambda ⟨[], [], none, [], [], none, []⟩ body scope lpos] [] pos) (tF K T E fun ρ => toldM (B ρ)) := by
  have L : LamX.LamS X.env.scope scope := by rw [G.sc]; exact LamX.lamS_by hs
  obtain ⟨TL, c, Pt, eT, TB, hcode, hm, hu⟩ := LA
  obtain ⟨g1, g2, g3⟩ := G.glo hg
  have room : Room (5 * k + 2 + 2) X.A := by
    have := G.room
    rw [if_pos hl] at this
    exact this
  have pt := pe_told (X := X) (T := TL) (c := c) (P := Pt) (k := 5 * k + 2) (body := body) (scope := scope) (t := fun E' => tF K T E' B) (p := p) (lpos := lpos) (pos := pos) g1 (by rw [G.fr, G.gl]; exact F) (by rw [G.bs, G.gl]; exact TB) hcode hm hu room L
    (fun A outer s H E' f c' hr => hb (G.lamN L A outer s H E' f c' hr))
  refine pt.sub fun σ H Q ⟨α, ρ, h, er, S, o⟩ => ⟨by rw [← eT]; exact S.tab, fun H1 eN t1 => ?_⟩
  rw [G.fr]
  obtain ⟨ex, S1⟩ := S.extN eN (by rw [eT]; exact t1)
  refine ⟨α, ρ, h, er.mono ex, S1, ?_⟩
  have o : Out K T E α H (toldM (B ρ) h) Q := o
  unfold toldM at o
  cases e : B ρ h with
  | stuck => rw [e] at o; exact False.elim o
  | ok d h' =>
    rw [e] at o
    exact fun α2 H2 v ex2 S2 r2 => o α2 H2 v (ex.trans ex2) S2 r2
  | exc cx h' =>
    rw [e] at o
    dsimp only at o
    split at o
    · rename_i hc
      refine fun α2 H2 ex2 S2 => ⟨rfl, cx, hc, rfl, fun H3 q up nq eq => ?_⟩
      obtain ⟨ex3, S3⟩ := S2.extN (extN_up up) (by rw [eT]; exact LamX.Tabs.ext (by rw [← eT]; exact S2.tab) up)
      exact o α2 H3 (.ref q) ((ex.trans ex2).trans ex3) S3 (.tup eq (S2.free nq) two_le (.cons (.str _) (.cons (.str _) .nil)))
    · exact False.elim o
end
end Cr
set_option Elab.async false
set_option linter.all false
set_option maxRecDepth 100000
set_option maxHeartbeats 1000000
/-! The compiler is sound: expressions. -/
namespace Cr
open PySem PySem.Spec PyProof.Rows L2
theorem ob {α β : Type} {x : Option α} {f : α → Option β} {y : β} (h : (x >>= f) = some y) : ∃ a, x = some a ∧ f a = some y := Option.bind_eq_some_iff.mp h
/-- a good context whose tables are the program's -/
structure Ok (P : Program) (w : World) (K : PySem.W.Frag) (mg : Str → Option Value) (base : Heap) (T : Hp → Prop) (Pg : Prog) (k : Nat) (C : CC) (E : XK) (X : Cx) : Prop where
  G : Good P w K mg base k C E X
  cg : C.gk = Pg.gk
  cf : C.fl = Pg.fl
  cm : C.ms = Pg.ms
  lt : C.lam = true → LamAt T mg base X
  td : ∀ x, Pg.gk x = .told → x = "_law_told" ∧ ToldF K mg
structure Snd (P : Program) (w : World) (K : PySem.W.Frag) (mg : Str → Option Value) (base : Heap) (T : Hp → Prop) (Pg : Prog) (k n : Nat) : Prop where
  e_ : ∀ {C E X e F}, Ok P w K mg base T Pg k C E X → compE n C e = some F → PE X e (tF K T E (F (run Pg k)))
  t_ : ∀ {C E X e F}, Ok P w K mg base T Pg k C E X → compT n C e = some F → PT X e (tFT K T E (F (run Pg k)))
  ts_ : ∀ {C E X op es F} (pos : Pos), Ok P w K mg base T Pg k C E X → compTs n C op es = some F → PW X (.BoolOp op es pos) (tFT K T E (F (run Pg k)))
  bs_ : ∀ {C E X op es F} (pos : Pos), Ok P w K mg base T Pg k C E X → compBs n C op es = some F → PE X (.BoolOp op es pos) (tFB K T E (F (run Pg k)))
  es_ : ∀ {C E X es F}, Ok P w K mg base T Pg k C E X → compEs n C es = some F → PA X es (tFA K T E (F (run Pg k)))
  if_ : ∀ {C E X es F}, Ok P w K mg base T Pg k C E X → compIf n C es = some F → PTs X es (tFT K T E (F (run Pg k)))
  o_ : ∀ {C E X e F}, Ok P w K mg base T Pg k C E X → compO n C e = some F → PO X e (tG RO K T E (F (run Pg k)))
  i_ : ∀ {C E X tg e F}, Ok P w K mg base T Pg k C E X → compI n C tg e = some F → PI X tg e (tI K T E (F (run Pg k)))
section
variable {P : Program} {w : World} {K : PySem.W.Frag} {mg : Str → Option Value} {base : Heap} {T : Hp → Prop} {Pg : Prog} {k n : Nat} {C : CC} {E : XK} {X : Cx}
theorem Ok.blk (O : Ok P w K mg base T Pg k C E X) {scope : Scope} (ks : scope.kind = .function) (s : Shared) (H : Hp) (a : Addr) (cl : List (Str × Addr)) (fp : List Addr) :
    Ok P w K mg base T Pg k (blkCC C scope) noX (X.blk s H scope (compEnvC scope cl a X.env) fp) := ⟨O.G.blk ks s H a cl fp, O.cg, O.cf, O.cm, O.lt, O.td⟩
theorem Ok.blt (O : Ok P w K mg base T Pg k C E X) (Y : Fx K mg T Pg) {f : Str} (h : isBlt C f = true) : isGlo C f = true ∧ mg f = none := by
  unfold isBlt at h
  obtain ⟨h1, h2⟩ := Bool.and_eq_true_iff.mp h
  refine ⟨h1, Y.blt f ?_⟩
  rw [← O.cg]
  split at h2
  · assumption
  · cases h2
theorem compEs_cons {e : Expr} {r : List Expr} {F : ClL} (h : compEs n C (e :: r) = some F) : Syn e ∧ ∀ env pos, (backTo pos (starEach r env)).any (·.1) = false := by
  cases n with
  | zero => cases h
  | succ n =>
    have h' : (do let A ← compE n C e; let B ← compEs n C r; some (fun o ρ => do let x ← A o ρ; let l ← B o ρ; pure (x :: l)) : Option ClL) = some F := h
    obtain ⟨A, h1, h'⟩ := ob h'
    obtain ⟨B, h2, _⟩ := ob h'
    exact ⟨syn_of h1, syns_of h2⟩
theorem compEs_nil {F : ClL} (h : compEs n C [] = some F) : F = fun _ _ => pure [] := by
  cases n with
  | zero => cases h
  | succ n =>
    have h : (some fun _ _ => pure [] : Option ClL) = some F := h
    exact (Option.some.inj h).symm
theorem fold_of {tg iter : Expr} {F : Ora → Env → M ItK} (h : compI n C tg iter = some F) : ∀ env x, foldedSetIterable iter env x = pure x := by
  cases n with
  | zero => cases h
  | succ n =>
    cases iter <;> first
      | exact fun _ _ => rfl
      | (obtain ⟨A, h1, _⟩ := ob (show (do let A ← compE n C _; some fun o ρ => do itM (← A o ρ) : Option (Ora → Env → M ItK)) = some F from h)
         exact (syn_of h1).fold)
/-! ### one case each -/
theorem s_name (O : Ok P w K mg base T Pg k C E X) (Y : Fx K mg T Pg) {x : Str} {p : Pos} {F : Cl} (h : compE (n + 1) C (.Name x p) = some F) : PE X (.Name x p) (tF K T E (F (run Pg k))) := by
  have h : (if visB C.sc x then (C.slot x).map (fun i => fun _ ρ => getV ρ i) else if isGlo C x then (match C.gk x with | .con d => some fun _ _ => pure d | _ => none) else none : Option Cl) = some F := h
  split at h
  · rename_i hv
    obtain ⟨i, e1, rfl⟩ := Option.map_eq_some_iff.mp h
    obtain ⟨g1, g2, g3, g4⟩ := O.G.vis hv e1
    exact se_var (pe_var g1 g2 g3 g4)
  · split at h
    · rename_i hg
      obtain ⟨g1, g2, g3⟩ := O.G.glo hg
      split at h
      · rename_i d hd
        cases h
        obtain ⟨u, v, m1, m2, m3⟩ := Y.con x d (by rw [← O.cg]; exact hd)
        exact se_const (pe_glob g1 (by rw [O.G.gl]; exact m1) m2 g2) m3
      · cases h
    · cases h
theorem s_const {c : Const} {j : Nat} {p : Pos} {F : Cl} (h : compE (n + 1) C (.Constant c j p) = some F) : PE X (.Constant c j p) (tF K T E (F (run Pg k))) := by
  cases c <;> first
    | (cases h; done)
    | skip
  · cases h; exact se_const pe_non fun _ _ => .non
  · cases h; exact se_const pe_bl fun _ _ => .bl _
  · cases h; exact se_const pe_int fun _ _ => .int _
  · cases h; exact se_const pe_str fun _ _ => .str _
theorem s_call (O : Ok P w K mg base T Pg k C E X) (Y : Fx K mg T Pg) (Z : Clz P w K mg base T Pg k) (IH : Snd P w K mg base T Pg k n) {f : Str} {p pos : Pos} {as : List Expr} {kws : List Keyword} {F : Cl} (h : compE (n + 1) C (.Call (.Name f p) as kws pos) = some F) :
    PE X (.Call (.Name f p) as kws pos) (tF K T E (F (run Pg k))) := by
  replace h : (if isGlo C f then match (generalizing := false) C.gk f, kws with
      | .dfn, [] => do
        let F ← compEs n C as
        some fun o ρ => do o (f, none) (← F o ρ)
      | .cls, [] => do
        let F ← compEs n C as
        some fun o ρ => do makeM o f (← F o ρ)
      | .blt, [] =>
        if f = "isinstance" then match (generalizing := false) as with
          | [a, .Name t _] => do
            let A ← compE n C a
            let T ← tyBlt C t
            some fun o ρ => do pure (.bl (← isiM (← A o ρ) T))
          | _ => none
        else match (generalizing := false) rgArg C f as with
          | some (a, none) => do
            let A ← compE n C a
            some fun o ρ => do lstRg (C.mu.contains pos) (← A o ρ)
          | some (a, some b) => do
            let A ← compE n C a
            let B ← compE n C b
            some fun o ρ => do lstRg2 (C.mu.contains pos) (← A o ρ) (← B o ρ)
          | none => do
            let F ← compEs n C as
            let B ← bltM (C.mu.contains pos) f
            some fun o ρ => do B (← F o ρ)
      | .blt, [⟨some k, d, _⟩] => if k = "default" then match (generalizing := false) as with
          | [a] => do
            let A ← compE n C a
            let B ← compE n C d
            let G ← bltD f
            some fun o ρ => do
              let x ← A o ρ
              let y ← B o ρ
              G x y
          | _ => none
        else none
      | .told, [] => match (generalizing := false) as with
        | [.Lambda ⟨[], [], none, [], [], none, []⟩ body scope _] => if C.lam && LamX.lamSB C.sc scope then do
            let B ← compE n (lamCC C scope) body
            some fun o ρ => toldM (B o ρ)
          else none
        | _ => none
      | _, _ => none
    else none : Option Cl) = some F := h
  split at h
  · rename_i hg
    split at h
    · rename_i hk
      obtain ⟨L, h1, h2⟩ := ob h
      cases h2
      obtain ⟨d, hd⟩ := Y.dfn f (by rw [← O.cg]; exact hk)
      cases as with
      | nil =>
        rw [compEs_nil h1]
        exact se_def0 O.G Z hd hg
      | cons e es => exact se_def O.G Z hd hg (IH.es_ O h1) (compEs_cons h1).1 (compEs_cons h1).2
    · rename_i hk
      obtain ⟨L, h1, h2⟩ := ob h
      cases h2
      have hf : Pg.gk f = .cls := by rw [← O.cg]; exact hk
      cases as with
      | nil =>
        rw [compEs_nil h1]
        exact se_cls0 O.G Z Y hf hg
      | cons e es => exact se_cls O.G Z Y hf hg (IH.es_ O h1) (compEs_cons h1).1 (compEs_cons h1).2
    · rename_i hk
      have hf : Pg.gk f = .blt := by rw [← O.cg]; exact hk
      split at h
      · rename_i hi
        split at h
        · rename_i a t p2
          obtain ⟨A, h1, h⟩ := ob h
          obtain ⟨y, h2, h⟩ := ob h
          cases h
          unfold tyBlt at h2
          split at h2
          · rename_i hb
            exact se_isi O.G Y O.cg hi hg hf hb h2 (IH.e_ O h1) (syn_of h1)
          · cases h2
        · cases h
      · split at h
        · rename_i a hr
          obtain ⟨A, h1, h⟩ := ob h
          cases h
          obtain ⟨p1, p2, rfl, rfl, hb⟩ := rg_one hr
          obtain ⟨g1, g2⟩ := O.blt Y hb
          exact se_lrg1 O.G Y.TO (Y.blt _ hf) hg g2 g1 (IH.e_ O h1) (syn_of h1)
        · rename_i a b hr
          obtain ⟨A, h1, h⟩ := ob h
          obtain ⟨B, h2, h⟩ := ob h
          cases h
          obtain ⟨p1, p2, rfl, rfl, hb⟩ := rg_two hr
          obtain ⟨g1, g2⟩ := O.blt Y hb
          exact se_lrg2 O.G Y.TO (Y.blt _ hf) hg g2 g1 (IH.e_ O h1) (syn_of h1) (IH.e_ O h2) (syn_of h2)
        · obtain ⟨L, h1, h⟩ := ob h
          obtain ⟨B, h2, h⟩ := ob h
          cases h
          cases as with
          | nil =>
            rw [compEs_nil h1]
            exact se_blt0 h2
          | cons e es => exact se_bltM O.G Y.TO h2 (Y.blt f hf) hg (IH.es_ O h1) (compEs_cons h1).1 (compEs_cons h1).2
    · rename_i kk d p2 hk
      have hf : Pg.gk f = .blt := by rw [← O.cg]; exact hk
      split at h
      · rename_i ek
        split at h
        · rename_i a
          obtain ⟨A, h1, h⟩ := ob h
          obtain ⟨B, h2, h⟩ := ob h
          obtain ⟨g, h3, h⟩ := ob h
          cases h
          rw [ek]
          exact se_bltD O.G h3 (Y.blt f hf) hg (IH.e_ O h1) (IH.e_ O h2) (syn_of h1)
        · cases h
      · cases h
    · rename_i hk
      obtain ⟨ef, F0⟩ := O.td f (by rw [← O.cg]; exact hk)
      subst ef
      split at h
      · rename_i body scope lp
        split at h
        · rename_i hb
          obtain ⟨b1, b2⟩ := Bool.and_eq_true_iff.mp hb
          obtain ⟨B, h1, h⟩ := ob h
          cases h
          exact se_told O.G b1 (O.lt b1) F0 hg b2 fun G' => IH.e_ ⟨G', O.cg, O.cf, O.cm, (fun z => by cases z), O.td⟩ h1
        · cases h
      · cases h
    · cases h
  · cases h
theorem s_meth (O : Ok P w K mg base T Pg k C E X) (Y : Fx K mg T Pg) (Z : Clz P w K mg base T Pg k) (IH : Snd P w K mg base T Pg k n) {m : Str} {a : Expr} {apos pos : Pos} {as : List Expr} {kws : List Keyword} {F : Cl} (h : compE (n + 1) C (.Call (.Attribute a m apos) as kws pos) = some F) :
    PE X (.Call (.Attribute a m apos) as kws pos) (tF K T E (F (run Pg k))) := by
  cases kws with
  | cons q r => cases h
  | nil =>
    have h : (if plainBase a && (apos.endLine == pos.line) && decide (as.length < 29) then do
        let A ← compE n C a
        let F ← compEs n C as
        some fun o ρ => do methM C.ms o m (← A o ρ) (F o ρ)
      else none : Option Cl) = some F := h
    split at h
    · rename_i hb
      simp only [Bool.and_eq_true, decide_eq_true_eq] at hb
      obtain ⟨A, h1, h⟩ := ob h
      obtain ⟨L, h2, h⟩ := ob h
      cases h
      have ns : ∀ env pos, (backTo pos (starEach as env)).any (·.1) = false := syns_of h2
      rw [O.cm]
      refine se_meth (L := L (run Pg k)) O.G Z Y (IH.e_ O h1) (IH.es_ O h2) (fun z => ?_) (fun e r z => ?_) hb.1.1 hb.1.2 hb.2 ns
      · subst z
        rw [compEs_nil h2]
      · subst z
        exact compEs_cons h2
    · cases h
theorem s_sub (O : Ok P w K mg base T Pg k C E X) (Y : Fx K mg T Pg) (IH : Snd P w K mg base T Pg k n) {a b : Expr} {pos : Pos} {F : Cl} (h : compE (n + 1) C (.Subscript a b pos) = some F) : PE X (.Subscript a b pos) (tF K T E (F (run Pg k))) := by
  have plain : (do let A ← compE n C a; let B ← compE n C b; some fun o ρ => do idxM (← A o ρ) (← B o ρ) : Option Cl) = some F → PE X (.Subscript a b pos) (tF K T E (F (run Pg k))) := fun h => by
    obtain ⟨A, h1, h⟩ := ob h
    obtain ⟨B, h2, h⟩ := ob h
    cases h
    exact se_idx O.G.fr O.G.units (IH.e_ O h1) (IH.e_ O h2) (syn_of h2)
  cases b <;> first
    | exact plain h
    | skip
  rename_i lo hi st p2
  cases st with
  | some z => exact plain h
  | none =>
    have h : (do
      let A ← compE n C a
      let L ← compO n C lo
      let H ← compO n C hi
      some fun o ρ => do sliceM (C.mu.contains pos) (← A o ρ) (← L o ρ) (← H o ρ) : Option Cl) = some F := h
    obtain ⟨A, h1, h⟩ := ob h
    obtain ⟨L, h2, h⟩ := ob h
    obtain ⟨U, h3, h⟩ := ob h
    cases h
    exact se_slice Y.TO O.G.fr (IH.e_ O h1) (IH.o_ O h2) (IH.o_ O h3)
theorem s_comp (O : Ok P w K mg base T Pg k C E X) (Y : Fx K mg T Pg) (IH : Snd P w K mg base T Pg k n) {elt : Expr} {gs : List Comprehension} {scope : Scope} {pos : Pos} {F : Cl} (h : compE (n + 1) C (.ListComp elt gs scope pos) = some F) :
    ∃ (tg iter : Expr) (ifs : List Expr) (I0 : Ora → Env → M ItK) (F1 : D → Env → M Env) (TT : ClT) (EE : Cl), gs = [⟨tg, iter, ifs, 0⟩] ∧ F = (fun o ρ => lcM (I0 o) F1 (TT o) (EE o) ((ownOf C.N scope).map (·.2)) (C.mu.contains pos) ρ) ∧ compG (blkCC C scope) tg = some F1 ∧ PI X tg iter (tI K T E (I0 (run Pg k))) ∧ blkB C scope tg = true ∧
      (∀ s H a cl fp, PTs (X.blk s H scope (compEnvC scope cl a X.env) fp) ifs (tFT K T noX (TT (run Pg k)))) ∧ (∀ s H a cl fp, PE (X.blk s H scope (compEnvC scope cl a X.env) fp) elt (tF K T noX (EE (run Pg k)))) ∧ ∀ x, foldedSetIterable iter X.env x = pure x := by
  cases gs with
  | nil => cases h
  | cons g r =>
    obtain ⟨tg, iter, ifs, as⟩ := g
    cases r with
    | cons g r =>
      cases as with
      | ofNat m => cases m <;> cases (show (none : Option Cl) = some F from h)
      | negSucc m => cases (show (none : Option Cl) = some F from h)
    | nil =>
      cases as with
      | negSucc m => cases (show (none : Option Cl) = some F from h)
      | ofNat m => cases m with
       | succ m => cases (show (none : Option Cl) = some F from h)
       | zero =>
        have h : (if blkB C scope tg then do
          let I ← compI n C tg iter
          let G ← compG (blkCC C scope) tg
          let T ← compIf n (blkCC C scope) ifs
          let E ← compE n (blkCC C scope) elt
          some fun o ρ => do
            let it ← I o ρ
            let l ← M.nox (compIt (turnC G (T o) (E o) (wipeE ρ ((ownOf C.N scope).map (·.2)))) it)
            newL (C.mu.contains pos) l
        else none : Option Cl) = some F := h
        split at h
        · rename_i hb
          obtain ⟨I, h1, h⟩ := ob h
          obtain ⟨F1, h2, h⟩ := ob h
          obtain ⟨TT, h3, h⟩ := ob h
          obtain ⟨EE, h4, h⟩ := ob h
          obtain ⟨b1, b2⟩ := Bool.and_eq_true_iff.mp hb
          have ok := blkOk_by b1
          exact ⟨tg, iter, ifs, I, F1, TT, EE, rfl, (Option.some.inj h).symm, h2, IH.i_ O h1, hb, fun s H a cl fp => IH.if_ (O.blk ok.kind s H a cl fp) h3, fun s H a cl fp => IH.e_ (O.blk ok.kind s H a cl fp) h4, fun x => fold_of h1 X.env x⟩
        · cases h
theorem s_E (O : Ok P w K mg base T Pg k C E X) (Y : Fx K mg T Pg) (Z : Clz P w K mg base T Pg k) (IH : Snd P w K mg base T Pg k n) {e : Expr} {F : Cl} (h : compE (n + 1) C e = some F) : PE X e (tF K T E (F (run Pg k))) := by
  cases e with
  | Name x p => exact s_name O Y h
  | Constant c j p => exact s_const h
  | Tuple es j p =>
    have h : (do let F ← compEs n C es; some fun o ρ => do tupM (← F o ρ) : Option Cl) = some F := h
    obtain ⟨L, h1, h⟩ := ob h
    cases h
    exact se_tuple Y.TO (IH.es_ O h1)
  | List es p =>
    have h : (do let F ← compEs n C es; some fun o ρ => do dispM (C.mu.contains p) (← F o ρ) : Option Cl) = some F := h
    obtain ⟨L, h1, h⟩ := ob h
    cases h
    exact se_list Y.TO (IH.es_ O h1)
  | BinOp a op b p =>
    have h : (do let A ← compE n C a; let B ← compE n C b; some fun o ρ => do binM op (C.mu.contains p) (← A o ρ) (← B o ρ) : Option Cl) = some F := h
    obtain ⟨A, h1, h⟩ := ob h
    obtain ⟨B, h2, h⟩ := ob h
    cases h
    exact se_bin Y.TO O.G.fr (IH.e_ O h1) (IH.e_ O h2)
  | UnaryOp op a p =>
    cases op <;> first
      | (have h : (do let A ← compE n C a; some fun o ρ => do pure (.bl (!(← asBool (← A o ρ)))) : Option Cl) = some F := h
         obtain ⟨A, h1, h⟩ := ob h
         cases h
         exact se_not (IH.e_ O h1))
      | (have h : (do let A ← compE n C a; some fun o ρ => do negM (← A o ρ) : Option Cl) = some F := h
         obtain ⟨A, h1, h⟩ := ob h
         cases h
         exact se_neg O.G.fr (IH.e_ O h1))
      | cases (show (none : Option Cl) = some F from h)
  | BoolOp op es p =>
    have h : (do let F ← compBs n C op es; some fun o ρ => do pure (.bl (← F o ρ)) : Option Cl) = some F := h
    obtain ⟨A, h1, h⟩ := ob h
    cases h
    exact IH.bs_ p O h1
  | Compare a ops bs p =>
    cases ops with
    | nil => cases (show (none : Option Cl) = some F from h)
    | cons op ops =>
      cases ops with
      | nil =>
        cases bs with
        | nil => cases (show (none : Option Cl) = some F from h)
        | cons b bs =>
          cases bs with
          | cons c bs => cases (show (none : Option Cl) = some F from h)
          | nil =>
            have h : (do let A ← compE n C a; let B ← compE n C b; some fun o ρ => do pure (.bl (← cmpM op (← A o ρ) (← B o ρ))) : Option Cl) = some F := h
            obtain ⟨A, h1, h⟩ := ob h
            obtain ⟨B, h2, h⟩ := ob h
            cases h
            exact se_cmp O.G.fr O.G.units (IH.e_ O h1) (IH.e_ O h2) (syn_of h2)
      | cons op2 ops =>
        cases ops with
        | cons op3 ops => cases bs with
          | nil => cases (show (none : Option Cl) = some F from h)
          | cons b bs => cases bs with
            | nil => cases (show (none : Option Cl) = some F from h)
            | cons c bs => cases bs <;> cases (show (none : Option Cl) = some F from h)
        | nil =>
          cases bs with
          | nil => cases (show (none : Option Cl) = some F from h)
          | cons b bs =>
            cases bs with
            | nil => cases (show (none : Option Cl) = some F from h)
            | cons c bs =>
              cases bs with
              | cons d bs => cases (show (none : Option Cl) = some F from h)
              | nil =>
                have h : (do
                  let A ← compE n C a
                  let B ← compE n C b
                  let F ← compE n C c
                  some fun o ρ => do
                    let x ← A o ρ
                    let y ← B o ρ
                    let k ← cmpM op x y
                    if k then pure (.bl (← cmpM op2 y (← F o ρ))) else pure (.bl false) : Option Cl) = some F := h
                obtain ⟨A, h1, h⟩ := ob h
                obtain ⟨B, h2, h⟩ := ob h
                obtain ⟨D, h3, h⟩ := ob h
                cases h
                exact se_chain O.G.fr O.G.units (IH.e_ O h1) (IH.e_ O h2) (IH.e_ O h3) (syn_of h3)
  | IfExp t a b p =>
    have h : (do
      let T ← compT n C t
      let A ← compE n C a
      let B ← compE n C b
      some fun o ρ => do if ← T o ρ then A o ρ else B o ρ : Option Cl) = some F := h
    obtain ⟨A, h1, h⟩ := ob h
    obtain ⟨B, h2, h⟩ := ob h
    obtain ⟨D, h3, h⟩ := ob h
    cases h
    exact se_if (IH.t_ O h1) (IH.e_ O h2) (IH.e_ O h3)
  | Subscript a b p => exact s_sub O Y IH h
  | Attribute a f p =>
    have h : (if plainBase a then do let A ← compE n C a; some fun o ρ => do fldM C.fl (← A o ρ) f else none : Option Cl) = some F := h
    split at h
    · rename_i hb
      obtain ⟨A, h1, h⟩ := ob h
      cases h
      exact se_attr O.G (by rw [O.cf]; exact Y.fl) (IH.e_ O h1) hb
    · cases h
  | Dict ks vs p =>
    cases ks <;> cases vs <;> first
      | cases (show (none : Option Cl) = some F from h)
      | (cases (show (some fun _ _ => alloc (.dct false []) : Option Cl) = some F from h); exact se_dict0 Y.TO)
  | ListComp elt gs scope p =>
    obtain ⟨tg, iter, ifs, I0, F1, TT, EE, rfl, rfl, q1, q2, q3, q4, q5, q6⟩ := s_comp O Y IH h
    exact se_lc O.G Y.TO q1 q2 q3 q4 q5 q6
  | Call f as kws p =>
    cases f <;> first
      | exact s_call O Y Z IH h
      | exact s_meth O Y Z IH h
      | cases (show (none : Option Cl) = some F from h)
  | _ => cases (show (none : Option Cl) = some F from h)
theorem s_T (O : Ok P w K mg base T Pg k C E X) (Y : Fx K mg T Pg) (IH : Snd P w K mg base T Pg k n) {e : Expr} {F : ClT} (h : compT (n + 1) C e = some F) : PT X e (tFT K T E (F (run Pg k))) := by
  cases e with
  | UnaryOp op a p =>
    cases op <;> first
      | (have h : (do let A ← compT n C a; some fun o ρ => do pure (!(← A o ρ)) : Option ClT) = some F := h
         obtain ⟨A, h1, h⟩ := ob h
         cases h
         exact st_not (IH.t_ O h1))
      | cases (show (none : Option ClT) = some F from h)
  | BoolOp op es p => exact (IH.ts_ p O (show compTs n C op es = some F from h)).pt
  | Compare a ops bs p =>
    cases ops with
    | nil => cases (show (none : Option ClT) = some F from h)
    | cons op ops =>
      cases ops with
      | nil =>
        cases bs with
        | nil => cases (show (none : Option ClT) = some F from h)
        | cons b bs =>
          cases bs with
          | cons c bs => cases (show (none : Option ClT) = some F from h)
          | nil =>
            have h : (do let A ← compE n C a; let B ← compE n C b; some fun o ρ => do cmpM op (← A o ρ) (← B o ρ) : Option ClT) = some F := h
            obtain ⟨A, h1, h⟩ := ob h
            obtain ⟨B, h2, h⟩ := ob h
            cases h
            exact st_cmp O.G.fr O.G.units (IH.e_ O h1) (IH.e_ O h2) (syn_of h2)
      | cons op2 ops =>
        cases ops with
        | cons op3 ops => cases bs with
          | nil => cases (show (none : Option ClT) = some F from h)
          | cons b bs => cases bs with
            | nil => cases (show (none : Option ClT) = some F from h)
            | cons c bs => cases bs <;> cases (show (none : Option ClT) = some F from h)
        | nil =>
          cases bs with
          | nil => cases (show (none : Option ClT) = some F from h)
          | cons b bs =>
            cases bs with
            | nil => cases (show (none : Option ClT) = some F from h)
            | cons c bs =>
              cases bs with
              | cons d bs => cases (show (none : Option ClT) = some F from h)
              | nil =>
                have h : (do
                  let A ← compE n C a
                  let B ← compE n C b
                  let F ← compE n C c
                  some fun o ρ => do
                    let x ← A o ρ
                    let y ← B o ρ
                    let k ← cmpM op x y
                    if k then cmpM op2 y (← F o ρ) else pure false : Option ClT) = some F := h
                obtain ⟨A, h1, h⟩ := ob h
                obtain ⟨B, h2, h⟩ := ob h
                obtain ⟨D, h3, h⟩ := ob h
                cases h
                exact st_chain O.G.fr O.G.units (IH.e_ O h1) (IH.e_ O h2) (IH.e_ O h3) (syn_of h3)
  | Call f as kk p =>
    have h : (do let A ← compE n C (.Call f as kk p); some fun o ρ => do asBool (← A o ρ) : Option ClT) = some F := h
    obtain ⟨A, h1, h⟩ := ob h
    cases h
    exact st_val (IH.e_ O h1) fun _ => rfl
  | Name x p =>
    have h : (do let A ← compE n C (.Name x p); some fun o ρ => do asBool (← A o ρ) : Option ClT) = some F := h
    obtain ⟨A, h1, h⟩ := ob h
    cases h
    exact st_val (IH.e_ O h1) fun _ => rfl
  | Constant c j p =>
    have h : (do let A ← compE n C (.Constant c j p); some fun o ρ => do asBool (← A o ρ) : Option ClT) = some F := h
    obtain ⟨A, h1, h⟩ := ob h
    cases h
    exact st_val (IH.e_ O h1) fun _ => rfl
  | Subscript a b p =>
    have h : (do let A ← compE n C (.Subscript a b p); some fun o ρ => do asBool (← A o ρ) : Option ClT) = some F := h
    obtain ⟨A, h1, h⟩ := ob h
    cases h
    exact st_val (IH.e_ O h1) fun _ => rfl
  | _ => cases (show (none : Option ClT) = some F from h)
theorem s_Ts (O : Ok P w K mg base T Pg k C E X) (IH : Snd P w K mg base T Pg k n) {op : BoolOp} {es : List Expr} (pos : Pos) {F : ClT} (h : compTs (n + 1) C op es = some F) : PW X (.BoolOp op es pos) (tFT K T E (F (run Pg k))) := by
  cases es with
  | nil => cases (show (none : Option ClT) = some F from h)
  | cons a r =>
    cases r with
    | nil => exact sw_one (IH.t_ O (show compT n C a = some F from h))
    | cons b r =>
      cases op with
      | And =>
        have h : (do let A ← compT n C a; let B ← compTs n C .And (b :: r); some fun o ρ => do if ← A o ρ then B o ρ else pure false : Option ClT) = some F := h
        obtain ⟨A, h1, h⟩ := ob h
        obtain ⟨B, h2, h⟩ := ob h
        cases h
        exact sw_and (IH.t_ O h1) (IH.ts_ pos O h2)
      | Or =>
        have h : (do let A ← compT n C a; let B ← compTs n C .Or (b :: r); some fun o ρ => do if ← A o ρ then pure true else B o ρ : Option ClT) = some F := h
        obtain ⟨A, h1, h⟩ := ob h
        obtain ⟨B, h2, h⟩ := ob h
        cases h
        exact sw_or (IH.t_ O h1) (IH.ts_ pos O h2)
theorem s_Bs (O : Ok P w K mg base T Pg k C E X) (IH : Snd P w K mg base T Pg k n) {op : BoolOp} {es : List Expr} (pos : Pos) {F : ClT} (h : compBs (n + 1) C op es = some F) : PE X (.BoolOp op es pos) (tFB K T E (F (run Pg k))) := by
  cases es with
  | nil => cases (show (none : Option ClT) = some F from h)
  | cons a r =>
    cases r with
    | nil =>
      have h : (do let A ← compE n C a; some fun o ρ => do asBool (← A o ρ) : Option ClT) = some F := h
      obtain ⟨A, h1, h⟩ := ob h
      cases h
      exact sb_one (IH.e_ O h1)
    | cons b r =>
      cases op with
      | And =>
        have h : (do let A ← compE n C a; let B ← compBs n C .And (b :: r); some fun o ρ => do if ← asBool (← A o ρ) then B o ρ else pure false : Option ClT) = some F := h
        obtain ⟨A, h1, h⟩ := ob h
        obtain ⟨B, h2, h⟩ := ob h
        cases h
        exact sb_and (IH.e_ O h1) (IH.bs_ pos O h2)
      | Or =>
        have h : (do let A ← compE n C a; let B ← compBs n C .Or (b :: r); some fun o ρ => do if ← asBool (← A o ρ) then pure true else B o ρ : Option ClT) = some F := h
        obtain ⟨A, h1, h⟩ := ob h
        obtain ⟨B, h2, h⟩ := ob h
        cases h
        exact sb_or (IH.e_ O h1) (IH.bs_ pos O h2)
theorem s_Es (O : Ok P w K mg base T Pg k C E X) (IH : Snd P w K mg base T Pg k n) {es : List Expr} {F : ClL} (h : compEs (n + 1) C es = some F) : PA X es (tFA K T E (F (run Pg k))) := by
  cases es with
  | nil =>
    rw [compEs_nil h]
    exact sa_nil
  | cons e r =>
    have h : (do let A ← compE n C e; let B ← compEs n C r; some (fun o ρ => do let x ← A o ρ; let l ← B o ρ; pure (x :: l)) : Option ClL) = some F := h
    obtain ⟨A, h1, h⟩ := ob h
    obtain ⟨B, h2, h⟩ := ob h
    cases h
    exact sa_cons (IH.e_ O h1) (IH.es_ O h2) (syn_of h1)
theorem s_If (O : Ok P w K mg base T Pg k C E X) (IH : Snd P w K mg base T Pg k n) {es : List Expr} {F : ClT} (h : compIf (n + 1) C es = some F) : PTs X es (tFT K T E (F (run Pg k))) := by
  cases es with
  | nil =>
    cases (show (some fun _ _ => pure true : Option ClT) = some F from h)
    exact ⟨fun pins s σ H Q I ⟨α, ρ, hh, er, S, o⟩ => pts_nil.run pins s σ H Q I (OutG.pure (Rel := RB) o S rfl)⟩
  | cons c r =>
    cases r with
    | nil => exact pts_one (IH.t_ O (show compT n C c = some F from h))
    | cons d r => cases (show (none : Option ClT) = some F from h)
theorem s_O (O : Ok P w K mg base T Pg k C E X) (IH : Snd P w K mg base T Pg k n) {e : Option Expr} {F : Ora → Env → M (Option Int)} (h : compO (n + 1) C e = some F) : PO X e (tG RO K T E (F (run Pg k))) := by
  cases e with
  | none =>
    cases (show (some fun _ _ => pure none : Option (Ora → Env → M (Option Int))) = some F from h)
    exact so_none
  | some e =>
    have h : (do let A ← compE n C e; some fun o ρ => do partM (← A o ρ) : Option (Ora → Env → M (Option Int))) = some F := h
    obtain ⟨A, h1, h⟩ := ob h
    cases h
    exact so_some (IH.e_ O h1)
theorem s_I (O : Ok P w K mg base T Pg k C E X) (Y : Fx K mg T Pg) (IH : Snd P w K mg base T Pg k n) {tg e : Expr} {F : Ora → Env → M ItK} (h : compI (n + 1) C tg e = some F) : PI X tg e (tI K T E (F (run Pg k))) := by
  have plain : (do let A ← compE n C e; some fun o ρ => do itM (← A o ρ) : Option (Ora → Env → M ItK)) = some F → PI X tg e (tI K T E (F (run Pg k))) := fun h => by
    obtain ⟨A, h1, h⟩ := ob h
    cases h
    exact si_any O.G.fr (IH.e_ O h1)
  cases e <;> first
    | exact plain h
    | skip
  rename_i f as kws pos
  cases f <;> first
    | exact plain h
    | skip
  rename_i f p
  cases as with
  | nil => exact plain h
  | cons a as =>
    cases as with
    | nil =>
      cases kws with
      | cons q r => exact plain h
      | nil =>
        have h : (if isBlt C f && decide (f = "range") then do
              let A ← compE n C a
              some fun o ρ => do rng1M (← A o ρ)
          else if isBlt C f && decide (f = "enumerate") && isTupE tg then do
              let A ← compE n C a
              some fun o ρ => do enumM (← A o ρ)
          else do
              let A ← compE n C (.Call (.Name f p) [a] [] pos)
              some fun o ρ => do itM (← A o ρ) : Option (Ora → Env → M ItK)) = some F := h
        split at h
        · rename_i hb
          obtain ⟨b1, b2⟩ := Bool.and_eq_true_iff.mp hb
          obtain ⟨g1, g2⟩ := O.blt Y b1
          obtain ⟨A, h1, h⟩ := ob h
          cases h
          exact si_range1 O.G (of_decide_eq_true b2) g2 g1 (IH.e_ O h1) (syn_of h1)
        · split at h
          · rename_i hb
            obtain ⟨b12, b3⟩ := Bool.and_eq_true_iff.mp hb
            obtain ⟨b1, b2⟩ := Bool.and_eq_true_iff.mp b12
            obtain ⟨g1, g2⟩ := O.blt Y b1
            obtain ⟨A, h1, h⟩ := ob h
            cases h
            cases tg <;> first
              | (cases b3; done)
              | exact si_enum O.G Y.TO (of_decide_eq_true b2) g2 g1 (IH.e_ O h1) (syn_of h1)
          · exact plain h
    | cons b as =>
      cases as with
      | cons c as => exact plain h
      | nil =>
        cases kws with
        | cons q r => exact plain h
        | nil =>
          have h : (if isBlt C f && decide (f = "range") then do
                let A ← compE n C a
                let B ← compE n C b
                some fun o ρ => do rng2M (← A o ρ) (← B o ρ)
            else if isBlt C f && decide (f = "zip") && isTupE tg then do
                let A ← compE n C a
                let B ← compE n C b
                some fun o ρ => do zipM (← A o ρ) (← B o ρ)
            else do
                let A ← compE n C (.Call (.Name f p) [a, b] [] pos)
                some fun o ρ => do itM (← A o ρ) : Option (Ora → Env → M ItK)) = some F := h
          split at h
          · rename_i hb
            obtain ⟨b1, b2⟩ := Bool.and_eq_true_iff.mp hb
            obtain ⟨g1, g2⟩ := O.blt Y b1
            obtain ⟨A, h1, h⟩ := ob h
            obtain ⟨B, h2, h⟩ := ob h
            cases h
            exact si_range2 O.G (of_decide_eq_true b2) g2 g1 (IH.e_ O h1) (syn_of h1) (IH.e_ O h2) (syn_of h2)
          · split at h
            · rename_i hb
              obtain ⟨b12, b3⟩ := Bool.and_eq_true_iff.mp hb
              obtain ⟨b1, b2⟩ := Bool.and_eq_true_iff.mp b12
              obtain ⟨g1, g2⟩ := O.blt Y b1
              obtain ⟨A, h1, h⟩ := ob h
              obtain ⟨B, h2, h⟩ := ob h
              cases h
              cases tg <;> first
                | (cases b3; done)
                | exact si_zip O.G Y.TO (of_decide_eq_true b2) g2 g1 (IH.e_ O h1) (syn_of h1) (IH.e_ O h2) (syn_of h2)
            · exact plain h
theorem snd_all (Y : Fx K mg T Pg) (Z : Clz P w K mg base T Pg k) : ∀ n, Snd P w K mg base T Pg k n
  | 0 => by constructor <;> intros <;> rename_i h <;> cases h
  | n + 1 =>
    have IH := snd_all Y Z n
    ⟨fun O h => s_E O Y Z IH h, fun O h => s_T O Y IH h, fun pos O h => s_Ts O IH pos h, fun pos O h => s_Bs O IH pos h, fun O h => s_Es O IH h, fun O h => s_If O IH h, fun O h => s_O O IH h, fun O h => s_I O Y IH h⟩
end
end Cr
set_option Elab.async false
set_option linter.all false
set_option maxRecDepth 100000
set_option maxHeartbeats 1000000
/-! The compiler is sound: statements. -/
namespace Cr
open PySem PySem.Spec PyProof.Rows L2
structure SndS (P : Program) (w : World) (K : PySem.W.Frag) (mg : Str → Option Value) (base : Heap) (T : Hp → Prop) (Pg : Prog) (k n : Nat) : Prop where
  s_ : ∀ {C E X e F}, Ok P w K mg base T Pg k C E X → compS n C e = some F → PS X e (tS K T E (F (run Pg k)))
  ss_ : ∀ {C E X e F}, Ok P w K mg base T Pg k C E X → compSs n C e = some F → PSs X e (tS K T E (F (run Pg k)))
section
variable {P : Program} {w : World} {K : PySem.W.Frag} {mg : Str → Option Value} {base : Heap} {T : Hp → Prop} {Pg : Prog} {k n : Nat} {C : CC} {E : XK} {X : Cx}
theorem Ok.kind (O : Ok P w K mg base T Pg k C E X) : X.env.scope.kind = .function := by rw [O.G.sc]; exact O.G.kd
theorem s_asgN (O : Ok P w K mg base T Pg k C E X) (Y : Fx K mg T Pg) (Z : Clz P w K mg base T Pg k) {x : Str} {p pos : Pos} {e : Expr} {F : ClS} (h : compS (n + 1) C (.Assign [.Name x p] e pos) = some F) : PS X (.Assign [.Name x p] e pos) (tS K T E (F (run Pg k))) := by
  have h : (do
    let A ← compE n C e
    let G ← compG C (.Name x p)
    some fun o ρ => liftE (do G (← A o ρ) ρ) ρ fun ρ' h => .next ρ' h : Option ClS) = some F := h
  obtain ⟨A, h1, h⟩ := ob h
  obtain ⟨G, h2, h⟩ := ob h
  cases h
  have IH := snd_all Y Z
  cases hc : isComp e with
  | false => exact ss_name O.G h2 ((IH n).e_ O h1) (noswap hc)
  | true =>
    cases n with
    | zero => cases h1
    | succ n =>
      cases e <;> first
        | (cases hc; done)
        | cases (show (none : Option Cl) = some A from h1)
        | skip
      rename_i elt gs scope p2
      obtain ⟨tg, iter, ifs, I0, F1, TT, EE, rfl, rfl, q1, q2, q3, q4, q5, q6⟩ := s_comp O Y (IH n) h1
      exact ss_lc O.G Y.TO q1 q2 q3 q4 q5 q6 h2
theorem s_asgT (O : Ok P w K mg base T Pg k C E X) (Y : Fx K mg T Pg) (Z : Clz P w K mg base T Pg k) {ts : List Expr} {j : Nat} {p pos : Pos} {e : Expr} {F : ClS} (h : compS (n + 1) C (.Assign [.Tuple ts j p] e pos) = some F) : PS X (.Assign [.Tuple ts j p] e pos) (tS K T E (F (run Pg k))) := by
  have h : (if swOk C.sc ts e then do
      let A ← compE n C e
      let G ← compG C (.Tuple ts j p)
      some fun o ρ => liftE (do G (← A o ρ) ρ) ρ fun ρ' h => .next ρ' h
    else none : Option ClS) = some F := h
  split at h
  · rename_i hs
    obtain ⟨A, h1, h⟩ := ob h
    obtain ⟨G, h2, h⟩ := ob h
    cases h
    have IH := snd_all Y Z
    have plain : swappedStores [.Tuple ts j p] e X.env = pure none → PS X (.Assign [.Tuple ts j p] e pos) (tS K T E fun ρ => liftE (do G (← A (run Pg k) ρ) ρ) ρ fun ρ' h => .next ρ' h) := fun z => ss_tup O.G h2 ((IH n).e_ O h1) z
    cases e with
    | Tuple vs k2 p2 =>
      have hs : (swP C.sc ts vs).isSome = true := hs
      cases q : swP C.sc ts vs with
      | none => rw [q] at hs; cases hs
      | some r =>
        cases r with
        | none => exact plain (sw_of O.kind (by rw [O.G.sc]; exact q))
        | some nm =>
          cases n with
          | zero => cases h1
          | succ n =>
            have h1 : (do let F ← compEs n C vs; some fun o ρ => do tupM (← F o ρ) : Option Cl) = some A := h1
            obtain ⟨L, h3, h1⟩ := ob h1
            cases h1
            have z := ss_par (pos := pos) (k2 := k2) (p2 := p2) O.G O.kind h2 ((IH n).es_ O h3) q
            simpa only [bind_assoc] using z
    | _ => exact plain rfl
  · cases h
theorem s_asg1 (O : Ok P w K mg base T Pg k C E X) (Y : Fx K mg T Pg) (Z : Clz P w K mg base T Pg k) {t : Expr} {pos : Pos} {e : Expr} {F : ClS} (h : compS (n + 1) C (.Assign [t] e pos) = some F) : PS X (.Assign [t] e pos) (tS K T E (F (run Pg k))) := by
  cases t <;> first
    | exact s_asgN O Y Z h
    | exact s_asgT O Y Z h
    | cases (show (none : Option ClS) = some F from h)
    | skip
  · rename_i a f p
    have h : (do
      let E ← compE n C e
      let A ← compE n C a
      some fun o ρ => liftE (do
        let v ← E o ρ
        let x ← A o ρ
        setFldM C.fl x f v) ρ fun _ h => .next ρ h : Option ClS) = some F := h
    obtain ⟨A, h1, h⟩ := ob h
    obtain ⟨B, h2, h⟩ := ob h
    cases h
    have IH := snd_all Y Z
    exact ss_fld O.G Y.TO (by rw [O.cf]; exact Y.fl) ((IH n).e_ O h1) ((IH n).e_ O h2)
  · rename_i a b p
    have h : (do
      let E ← compE n C e
      let A ← compE n C a
      let B ← compE n C b
      some fun o ρ => liftE (do
        let v ← E o ρ
        let x ← A o ρ
        let y ← B o ρ
        storeM x y v) ρ fun _ h => .next ρ h : Option ClS) = some F := h
    obtain ⟨A, h1, h⟩ := ob h
    obtain ⟨B, h2, h⟩ := ob h
    obtain ⟨D, h3, h⟩ := ob h
    cases h
    have IH := snd_all Y Z
    exact ss_sub O.G Y.TO ((IH n).e_ O h1) ((IH n).e_ O h2) ((IH n).e_ O h3) (syn_of h3)
theorem s_raise (O : Ok P w K mg base T Pg k C E X) (Y : Fx K mg T Pg) {a b : Option Expr} {pos : Pos} {F : ClS} (h : compS (n + 1) C (.Raise a b pos) = some F) : PS X (.Raise a b pos) (tS K T E (F (run Pg k))) := by
  cases a with
  | none => cases (show (none : Option ClS) = some F from h)
  | some a =>
    cases a <;> first
      | cases (show (none : Option ClS) = some F from h)
      | skip
    rename_i f as kws p
    cases f <;> first
      | cases (show (none : Option ClS) = some F from h)
      | skip
    rename_i x p2
    cases as with
    | nil => cases (show (none : Option ClS) = some F from h)
    | cons c as =>
      cases c <;> first
        | cases (show (none : Option ClS) = some F from h)
        | skip
      rename_i c j p3
      cases c <;> first
        | cases (show (none : Option ClS) = some F from h)
        | skip
      rename_i m
      cases as with
      | cons c as => cases (show (none : Option ClS) = some F from h)
      | nil =>
        cases kws with
        | cons c as => cases (show (none : Option ClS) = some F from h)
        | nil =>
          cases b with
          | some b => cases (show (none : Option ClS) = some F from h)
          | none =>
            replace h : (if isGlo C x then match (generalizing := false) C.gk x with
                | .exc => some fun _ ρ h => .exc x ρ h
                | _ => none
              else none : Option ClS) = some F := h
            split at h
            · rename_i hg
              split at h
              · rename_i hk
                cases h
                exact ss_raise O.G Y (by rw [← O.cg]; exact hk) hg
              · cases h
            · cases h
theorem s_S (O : Ok P w K mg base T Pg k C E X) (Y : Fx K mg T Pg) (Z : Clz P w K mg base T Pg k) (IS : SndS P w K mg base T Pg k n) {s : Stmt} {F : ClS} (h : compS (n + 1) C s = some F) : PS X s (tS K T E (F (run Pg k))) := by
  have IH := snd_all Y Z n
  cases s with
  | Pass p => cases (show (some fun _ ρ h => .next ρ h : Option ClS) = some F from h); exact ss_pass
  | Return e p =>
    cases e with
    | none => cases (show (some fun _ _ h => .ret .non h : Option ClS) = some F from h); exact ss_retN
    | some e =>
      have h : (do let A ← compE n C e; some fun o ρ => liftE (A o ρ) ρ fun d h => .ret d h : Option ClS) = some F := h
      obtain ⟨A, h1, h⟩ := ob h
      cases h
      exact ss_ret (IH.e_ O h1)
  | Expr e p =>
    have h : (if isComp e then none else do let A ← compE n C e; some fun o ρ => liftE (A o ρ) ρ fun _ h => .next ρ h : Option ClS) = some F := h
    split at h
    · cases h
    · rename_i hc
      obtain ⟨A, h1, h⟩ := ob h
      cases h
      exact ss_expr (IH.e_ O h1) (by simpa using hc)
  | Assign ts e p =>
    cases ts with
    | nil => cases (show (none : Option ClS) = some F from h)
    | cons t ts =>
      cases ts with
      | nil => exact s_asg1 O Y Z h
      | cons u ts => cases t <;> cases (show (none : Option ClS) = some F from h)
  | If t a b p =>
    have h : (do
      let T ← compT n C t
      let A ← compSs n C a
      let B ← compSs n C b
      some fun o ρ => liftE (T o ρ) ρ fun c h => if c then A o ρ h else B o ρ h : Option ClS) = some F := h
    obtain ⟨A, h1, h⟩ := ob h
    obtain ⟨B, h2, h⟩ := ob h
    obtain ⟨D, h3, h⟩ := ob h
    cases h
    exact ss_if (IH.t_ O h1) (IS.ss_ O h2) (IS.ss_ O h3)
  | For tg iter body els p =>
    cases els with
    | cons u r => cases (show (none : Option ClS) = some F from h)
    | nil =>
      have h : (do
        let I ← compI n C tg iter
        let G ← compG C tg
        let B ← compSs n C body
        some fun o ρ => liftE (I o ρ) ρ fun it h => loopOf (fun d ρ => liftE (G d ρ) ρ fun ρ' h => B o ρ' h) it ρ h : Option ClS) = some F := h
      obtain ⟨A, h1, h⟩ := ob h
      obtain ⟨B, h2, h⟩ := ob h
      obtain ⟨D, h3, h⟩ := ob h
      cases h
      exact ss_for O.G h2 (IH.i_ O h1) (IS.ss_ O h3) (fold_of h1 X.env)
  | While t body els p =>
    cases els with
    | cons u r => cases (show (none : Option ClS) = some F from h)
    | nil =>
      have h : (do
        let T ← compT n C t
        let B ← compSs n C body
        some fun o ρ => whileM (T o) (B o) 1000 ρ : Option ClS) = some F := h
      obtain ⟨A, h1, h⟩ := ob h
      obtain ⟨B, h2, h⟩ := ob h
      cases h
      exact ss_while O.G (IH.t_ O h1) (IS.ss_ O h2)
  | Raise a b p => exact s_raise O Y h
  | _ => cases (show (none : Option ClS) = some F from h)
theorem sndS_all (Y : Fx K mg T Pg) (Z : Clz P w K mg base T Pg k) : ∀ n, SndS P w K mg base T Pg k n
  | 0 => by constructor <;> intros <;> rename_i h <;> cases h
  | n + 1 =>
    have IS := sndS_all Y Z n
    ⟨fun O h => s_S O Y Z IS h, fun {C E X e F} O h => by
      cases e with
      | nil => cases (show (some fun _ ρ h => .next ρ h : Option ClS) = some F from h); exact sss_nil
      | cons s r =>
        have h : (do
          let A ← compS n C s
          let B ← compSs n C r
          some fun o ρ h => match A o ρ h with
            | .next ρ' h' => B o ρ' h'
            | x => x : Option ClS) = some F := h
        obtain ⟨A, h1, h⟩ := ob h
        obtain ⟨B, h2, h⟩ := ob h
        cases h
        exact sss_cons (IS.s_ O h1) (IS.ss_ O h2)⟩
end
end Cr
set_option Elab.async false
set_option linter.all false
set_option maxRecDepth 100000
set_option maxHeartbeats 1000000
/-! A program's table; its defs keep their promises. -/
namespace Cr
open PySem PySem.Spec PyProof.Rows L2
/-- a def of the text: what the head tells, its parameters, its names -/
structure DD where
  d : He.DefD
  ps : List Str
  N : List Str
def DD.dfn (x : DD) : Def := ⟨x.d.at_, x.ps, x.N, x.d.scope, x.d.body⟩
/-- a law's table -/
structure Tb where
  gks : List (Str × GK)
  mu : List Pos
  fl : List (Str × Str)
  ms : List (Str × Str)
  dds : List DD
  /-- the defs that make lambdas -/
  lams : List He.Defn
  /-- whether refusals are told, and the defs that tell -/
  told : Bool
  tdd : List DD
def Tb.gk (t : Tb) (x : Str) : GK := (t.gks.lookup x).getD .no
def Tb.prog (t : Tb) : Prog := ⟨t.gk, t.mu, t.fl, t.ms, t.dds.map DD.dfn, t.lams⟩
def faG : Str × GK → List He.Fa
  | (x, .dfn) => [.glo x]
  | (x, .cls) => [.glo x, .mkr x]
  | (x, .exc) => [.glo x, .exc x]
  | (x, .con (.int i)) => [.int x i]
  | (x, .con (.str z)) => [.str x z]
  | (x, .blt) => [.free x]
  | _ => []
def toldFa : List He.Fa := [.free "isinstance", .free "sum", .free "int", .free "ValueError", .glo "MailError", .glo "_law_term", .glo "_law_told"] ++ toldN.flatMap fun x => [.glo x, .exm x "MailError" true]
def Tb.fa (t : Tb) : List He.Fa := t.gks.flatMap faG ++ (t.fl.flatMap fun p => [.cls p.1, .noat p.1 p.2]) ++ (t.ms.flatMap fun p => [.cls p.1, .meth p.1 p.2]) ++ if t.told then toldFa else []
def Tb.fn (t : Tb) : List He.DefD := t.dds.map (·.d) ++ t.tdd.map (·.d)
/-- what the kernel looks at besides: the refusals' classes, the tables -/
def excCB (K : PySem.W.Frag) (D : Addr) : Bool :=
  He.eqO (PySem.W.findIn K (.ref D) "__getattribute__") (some (some (.builtin "BaseException.__getattribute__"))) && (He.eqO (PySem.W.findIn K (.ref D) "__getattr__") (some none) && (decide (PySem.W.subIn K (.ref D) (.type "BaseException") = some true) && (PySem.W.hasDictIn K D &&
  (He.eqO (PySem.W.findIn K (.ref D) "__class__") (some (some (.builtin "object.__class__"))) && (He.eqO (PySem.W.specialIn K (.builtin "object.__class__") "__get__") (some (some (.builtin "getset_descriptor.__get__"))) && (decide (PySem.W.takesIn K (.builtin "object.__class__") = some true) && decide (PySem.W.mroIn K D (.type "object") = some true)))))))
theorem excCB_ok {K : PySem.W.Frag} {D : Addr} (h : excCB K D = true) : ExcC K D := by
  unfold excCB at h
  simp only [Bool.and_eq_true, decide_eq_true_eq] at h
  obtain ⟨h1, h2, h3, h4, h5, h6, h7, h8⟩ := h
  exact ⟨He.eqO_ok h1, He.eqO_ok h2, h3, h4, He.eqO_ok h5, He.eqO_ok h6, h7, h8⟩
def kitB11 (K : PySem.W.Frag) : Bool := toldN.all fun c => excCB K (He.ga K c) && decide (PySem.W.kitOne K (.ref (He.ga K c)) (.type "ValueError") = some true) && toldN.all fun x => decide (PySem.W.kitOne K (.ref (He.ga K c)) (.ref (He.ga K x)) = some (decide (x = c)))
def Tb.ex (t : Tb) (K : PySem.W.Frag) : Bool := (!t.told || kitB11 K) && decide (t.lams.map fun p => (He.cT K p).2).Nodup
/-- the tables and the names of the code objects in them -/
def qn (x : Str) : Str := x ++ ".<locals>." ++ "<lambda>"
def Tb.tl (t : Tb) (K : PySem.W.Frag) : List (Addr × Str) := t.lams.map fun p => ((He.cT K p).2, qn p.1)
theorem tabs_ok (TL : List (Addr × Str)) : TabOk (LamX.Tabs TL) := ⟨fun H a o hT n1 n2 p hp => by
  obtain ⟨ps, h1, h2, h3⟩ := hT p hp
  refine ⟨ps, by rw [upd_ne (fun z => n1 ps (by rw [← z]; exact h1))]; exact h1, h2, fun pos cv hc => ?_⟩
  obtain ⟨c, e1, e2⟩ := h3 pos cv hc
  exact ⟨c, e1, by rw [upd_ne (fun z => n2 _ (by rw [← z]; exact e2))]; exact e2⟩⟩
/-- what the table must be -/
def gkB (t : Tb) : Str × GK → Bool
  | (x, .dfn) => (t.prog.find (x, none)).isSome
  | (x, .cls) => (t.prog.find (x, some "__init__")).isSome
  | (_, .con (.int _)) => true
  | (_, .con (.str _)) => true
  | (_, .con _) => false
  | (x, .told) => (x == "_law_told") && t.told
  | _ => true
def isDfn : GK → Bool
  | .dfn => true
  | _ => false
def ddB (t : Tb) (x : DD) : Bool := x.d.dfl.isEmpty && x.d.kwd.isEmpty && (match x.d.at_ with
  | (n, none) => isDfn (t.gk n) && (x.d.qual == n)
  | (c, some m) => m == "__init__" || t.ms.contains (c, m))
def Tb.ok (t : Tb) : Bool := (t.lams.all fun p => p.2.isNone) && (t.gks.all (gkB t)) && (t.ms.all fun p => p.2 != "__init__" && (t.prog.find (p.1, some p.2)).isSome) && t.dds.all (ddB t)
theorem ba4 {a b c d : Bool} (h : (a && b && c && d) = true) : a = true ∧ b = true ∧ c = true ∧ d = true := by
  simp only [Bool.and_eq_true] at h
  exact ⟨h.1.1.1, h.1.1.2, h.1.2, h.2⟩
/-- what the text says of each def -/
structure DOk (x : DD) : Prop where
  sc : FnScope x.N x.ps x.d.scope
  bind : ∀ (kV doc pm : Value) (an : Option Addr) (cdv ct : Value) (us : List Value), us.length = x.ps.length → bindArgs (PySem.W.fnOf x.d.name x.d.qual x.d.params x.d.body x.d.scope .none kV doc pm an cdv ct) ⟨us, []⟩ = pure (x.ps.zip us)
theorem lookup_mem' {α : Type} : ∀ {l : List (Str × α)} {x : Str} {a : α}, l.lookup x = some a → (x, a) ∈ l
  | [], _, _, h => by simp at h
  | (y, b) :: r, x, a, h => by
    rw [List.lookup_cons] at h
    split at h
    · rename_i e
      cases h
      rw [eq_of_beq e]
      exact List.mem_cons_self
    · exact List.mem_cons_of_mem _ (lookup_mem' h)
section
variable {t : Tb} {K : PySem.W.Frag} {h : Heap} {mg : Str → Option Value} {T : Hp → Prop}
theorem Tb.gk_mem {x : Str} {g : GK} (e : t.gk x = g) (hn : g ≠ .no) : (x, g) ∈ t.gks := by
  unfold Tb.gk at e
  cases q : t.gks.lookup x with
  | none => rw [q] at e; exact absurd e.symm hn
  | some g' =>
    rw [q] at e
    have e : g' = g := e
    subst e
    exact lookup_mem' q
theorem Tb.fact (c : He.SaysD t.fa t.fn K) {x : Str} {g : GK} (e : t.gk x = g) (hn : g ≠ .no) {f : He.Fa} (hf : f ∈ faG (x, g)) : f.ok K = true :=
  c.facts (List.mem_append_left _ (List.mem_append_left _ (List.mem_append_left _ (List.mem_flatMap.mpr ⟨_, Tb.gk_mem e hn, hf⟩))))
theorem fx_of (ok : t.ok = true) (X : K.In h) (G : h.Ns mainGlobals mg) (TO : TabOk T) (c : He.SaysD t.fa t.fn K) : Fx K mg T t.prog := by
  obtain ⟨ok0, ok1, ok2, ok3⟩ := ba4 ok
  have g1 : ∀ {x g}, t.gk x = g → g ≠ .no → gkB t (x, g) = true := fun e hn => List.all_eq_true.mp ok1 _ (Tb.gk_mem e hn)
  refine ⟨fun x d e => ?_, fun x e => ?_, fun x e => ?_, fun x e => ?_, fun x e => ?_, fun a f hm => ?_, fun a m hm => ?_, TO⟩
  · have q := g1 e (by intro z; cases z)
    cases d with
    | int i =>
      obtain ⟨tk, z⟩ := He.int_ok X G (Tb.fact (f := .int x i) c e (by intro z; cases z) (by simp [faG]))
      exact ⟨_, .int i, z, ⟨_, rfl⟩, fun _ _ => .int i⟩
    | str y =>
      obtain ⟨tk, z⟩ := He.str_ok X G (Tb.fact (f := .str x y) c e (by intro z; cases z) (by simp [faG]))
      exact ⟨_, .str y, z, ⟨_, rfl⟩, fun _ _ => .str y⟩
    | _ => cases q
  · exact He.free_ok X G (Tb.fact (f := .free x) c e (by intro z; cases z) (by simp [faG]))
  · exact Option.isSome_iff_exists.mp (g1 e (by intro z; cases z))
  · refine ⟨He.glo_ok X G (Tb.fact (f := .glo x) c e (by intro z; cases z) (by simp [faG])), He.mkr_ok (Tb.fact (f := .mkr x) c e (by intro z; cases z) (by simp [faG])), Option.isSome_iff_exists.mp (g1 e (by intro z; cases z))⟩
  · exact ⟨He.glo_ok X G (Tb.fact (f := .glo x) c e (by intro z; cases z) (by simp [faG])), He.exc_ok (Tb.fact (f := .exc x) c e (by intro z; cases z) (by simp [faG]))⟩
  · have q : ∀ f' ∈ [He.Fa.cls a, He.Fa.noat a f], f'.ok K = true := fun f' hf => c.facts (List.mem_append_left _ (List.mem_append_left _ (List.mem_append_right _ (List.mem_flatMap.mpr ⟨_, hm, hf⟩))))
    exact ⟨He.cls_ok (q _ (by simp)), He.noat_ok (q _ (by simp))⟩
  · obtain ⟨q1, q2⟩ := Bool.and_eq_true_iff.mp (List.all_eq_true.mp ok2 _ hm)
    exact ⟨by simpa using q1, Option.isSome_iff_exists.mp q2⟩
theorem env_start {α : Al} {H : Hp} {ds : List D} {vs : List V} {N : List Str} (r : RDs α H ds vs) : EnvR α H (startE N ds) (L2.start N vs) := by
  have hl := r.length
  refine ⟨by simp [startE, L2.start, hl], fun i d hd => ?_⟩
  unfold startE at hd
  unfold L2.start
  by_cases hi : i < ds.length
  · rw [List.getElem?_append_left (by simpa using hi), List.getElem?_map] at hd
    cases q : ds[i]? with
    | none => rw [q] at hd; cases hd
    | some d' =>
      rw [q] at hd
      cases hd
      obtain ⟨v, e1, e2⟩ := r.get q
      exact ⟨v, by rw [List.getElem?_append_left (by simp; omega), List.getElem?_map, e1]; rfl, e2⟩
  · rw [List.getElem?_append_right (by simpa using hi)] at hd
    rw [List.getElem?_replicate] at hd
    split at hd <;> cases hd
/-- the two defs that tell, as the text has them -/
structure TellD (t : Tb) : Prop where
  term : ∃ x ∈ t.tdd, DOk x ∧ x.d.at_ = (("_law_term" : Str), none) ∧ x.d.name = "_law_term" ∧ x.d.qual = "_law_term" ∧ (∃ L, x.d.body = termB L) ∧ x.d.scope = termSc ∧ x.ps = [("e" : Str)] ∧ x.d.dfl = [] ∧ x.d.kwd = []
  told : ∃ x ∈ t.tdd, DOk x ∧ x.d.at_ = (("_law_told" : Str), none) ∧ x.d.name = "_law_told" ∧ x.d.qual = "_law_told" ∧ (∃ L, x.d.body = toldB L) ∧ x.d.scope = toldSc ∧ x.ps = [("deed" : Str)] ∧ x.d.dfl = [] ∧ x.d.kwd = []
theorem told_of (X : K.In h) (G : h.Ns mainGlobals mg) (c : He.SaysD t.fa t.fn K) (hx : t.ex K = true) (ht : t.told = true) (D : TellD t) : ToldF K mg := by
  have fa : ∀ f ∈ toldFa, f.ok K = true := fun f hf => c.facts (List.mem_append_right _ (by rw [if_pos ht]; exact hf))
  unfold Tb.ex at hx
  rw [ht] at hx
  have hk : kitB11 K = true := by simpa using (Bool.and_eq_true_iff.mp hx).1
  unfold kitB11 at hk
  have hk := fun c hc => List.all_eq_true.mp hk c hc
  simp only [Bool.and_eq_true, decide_eq_true_eq, List.all_eq_true] at hk
  have gl : ∀ x ∈ toldN, mg x = some (.ref (He.ga K x)) := fun x hx => He.glo_ok X G (fa (.glo x) (List.mem_append_right _ (List.mem_flatMap.mpr ⟨x, hx, by simp⟩)))
  have ex : ∀ x ∈ toldN, (He.Fa.exm x "MailError" true).ok K = true := fun x hx => fa _ (List.mem_append_right _ (List.mem_flatMap.mpr ⟨x, hx, by simp⟩))
  have fun_ : ∀ x ∈ t.tdd, DOk x → x.d.dfl = [] → x.d.kwd = [] → ∃ fd, FunD K x.d.name x.d.qual x.d.params x.d.body x.d.scope [] [] (He.fAd K x.d.at_) fd ∧ Binds K fd x.ps [] := fun x hx dk z1 z2 => by
    obtain ⟨fd, F⟩ := c.defs (d := x.d) (List.mem_append_right _ (List.mem_map.mpr ⟨x, hx, rfl⟩))
    have e1 : x.d.dvs K = [] := by unfold He.DefD.dvs; rw [z1]; rfl
    have e2 : x.d.kws K = [] := by unfold He.DefD.kws; rw [z2]; rfl
    rw [e1, e2] at F
    exact ⟨fd, F, F.bindsN dk.bind⟩
  refine ⟨⟨He.free_ok X G (fa (.free "isinstance") (by simp [toldFa])), He.free_ok X G (fa (.free "sum") (by simp [toldFa])), He.free_ok X G (fa (.free "int") (by simp [toldFa])), He.free_ok X G (fa (.free "ValueError") (by simp [toldFa])), gl, fun x hx => excCB_ok (hk x hx).1.1, fun c hc x hx => (hk c hc).2 x hx, fun c hc => (hk c hc).1.2⟩,
    He.glo_ok X G (fa (.glo "MailError") (by simp [toldFa])), fun c hc => He.exm_ok (ex c hc), ?_, ?_⟩
  · obtain ⟨x, hx, dk, e1, e2, e3, ⟨L, e4⟩, e5, e6, e7, e8⟩ := D.term
    obtain ⟨fd, F, B⟩ := fun_ x hx dk e7 e8
    rw [e1, e2, e3, e4, e5] at F
    rw [e6] at B
    obtain ⟨oc, od, dV, kV, doc, pm, an, cdv, ct, osl, rfl, lk, hcd, _, _⟩ := F.ex
    exact ⟨L, _, _, dV, kV, doc, pm, cdv, ct, oc, an, od, osl, He.glo_ok X G (fa (.glo "_law_term") (by simp [toldFa])), F.kp, lk, hcd, B⟩
  · obtain ⟨x, hx, dk, e1, e2, e3, ⟨L, e4⟩, e5, e6, e7, e8⟩ := D.told
    obtain ⟨fd, F, B⟩ := fun_ x hx dk e7 e8
    rw [e1, e2, e3, e4, e5] at F
    rw [e6] at B
    obtain ⟨oc, od, dV, kV, doc, pm, an, cdv, ct, osl, rfl, lk, hcd, _, _⟩ := F.ex
    exact ⟨L, _, _, dV, kV, doc, pm, cdv, ct, oc, an, od, osl, He.glo_ok X G (fa (.glo "_law_told") (by simp [toldFa])), F.kp, lk, hcd, B⟩
/-- a def keeps its promise, if those it calls do -/
theorem fn_step {P : Program} {w : World} {base : Heap} {k : Nat} {key : Str × Option Str} {x : DD} {f : Addr} {fd : FuncData} (Y : Fx K mg (LamX.Tabs (t.tl K)) t.prog) (td : ∀ x, t.prog.gk x = .told → x = "_law_told" ∧ ToldF K mg) (tb : ∀ p ∈ t.lams, LamX.TabB base mg (He.cT K p).1 (He.cT K p).2) (hnd : (t.lams.map fun p => (He.cT K p).2).Nodup)
    (hq : x.d.at_.2 = none → x.d.qual = x.d.at_.1) (hl0 : ∀ p ∈ t.lams, p.2 = none) (hf : f = He.fAd K x.d.at_) (IH : Clz P w K mg base (LamX.Tabs (t.tl K)) t.prog k) (D : DOk x) (e : t.prog.find key = some x.dfn)
    (F : FunD K x.d.name x.d.qual x.d.params x.d.body x.d.scope [] [] f fd) : FnOk P w K mg base (L2N.CX P w) (5 * (k + 1)) f fd x.ps (spD K (LamX.Tabs (t.tl K)) (run t.prog (k + 1) key)) := by
  obtain ⟨oc, od, dV, kV, doc, pm, an, cdv, ct, osl, rfl, lk, hcd, _, _⟩ := F.ex
  obtain ⟨cd, ecd⟩ := He.codeIn_ref hcd
  refine fn_of lk hcd D.sc (fun vs H Q E ⟨α, hh, ds, S, r, o⟩ => ?_) (fun A outer s H vs Q E hr ⟨α, hh, ds, S, r, o⟩ => ?_)
  · rw [← r.length]
    by_cases hl : ds.length = x.ps.length
    · exact hl
    · rw [run_len e hl] at o
      exact False.elim o
  · have hl : ds.length = x.dfn.ps.length := by
      by_cases hl : ds.length = x.dfn.ps.length
      · exact hl
      · rw [run_len e hl] at o
        exact False.elim o
    unfold run at o
    simp only [e] at o
    rw [if_pos hl] at o
    cases hc : x.dfn.code t.prog with
    | none => rw [hc] at o; exact False.elim o
    | some SS =>
      rw [hc] at o
      have Gd : Good P w K mg base k (t.prog.cc x.dfn) E (cxOf (L2N.CX P w) P w K mg base x.N x.d.qual x.d.scope f cdv A outer s H E) :=
        ⟨rfl, rfl, rfl, rfl, rfl, rfl, rfl, D.sc.nd, rfl, (show Room (5 * k + 4) _ from hr).mono (by split <;> omega), L2N.takes_of rfl rfl rfl rfl, passes_of rfl, fun y hy => ⟨hy, .inl rfl⟩, D.sc.kind⟩
      have O : Ok P w K mg base (LamX.Tabs (t.tl K)) t.prog k (t.prog.cc x.dfn) E (cxOf (L2N.CX P w) P w K mg base x.N x.d.qual x.d.scope f cdv A outer s H E) := by
        refine ⟨Gd, rfl, rfl, rfl, fun hlam => ?_, td⟩
        have hm : x.d.at_ ∈ t.lams := by
          have z : t.lams.contains x.d.at_ = true := hlam
          simpa using z
        have eq := hq (hl0 _ hm)
        subst hf
        have ec : He.codeOf K x.d.at_ = cd := He.codeOf_eq lk ecd
        refine ⟨t.tl K, cd, (He.cT K x.d.at_).2, rfl, ?_, ecd, ?_, fun p hp ep => ?_⟩
        · have z := tb _ hm
          rw [show (He.cT K x.d.at_).1 = cd from ec] at z
          exact z
        · refine List.mem_map.mpr ⟨x.d.at_, hm, ?_⟩
          show (_, qn x.d.at_.1) = _
          rw [← eq]
          rfl
        · obtain ⟨q, hq', rfl⟩ := List.mem_map.mp hp
          have inj : q = x.d.at_ := by
            obtain ⟨i, hi, ei⟩ := List.mem_iff_getElem.mp hq'
            obtain ⟨j, hj, ej⟩ := List.mem_iff_getElem.mp hm
            have : i = j := (List.getElem_inj (i := i) (j := j) (h₀ := by simpa using hi) (h₁ := by simpa using hj) hnd).mp (by
              simp only [List.getElem_map, ei, ej]
              exact ep)
            subst this
            rw [← ei, ← ej]
          subst inj
          show qn x.d.at_.1 = _
          rw [← eq]
          rfl
      refine ⟨_, (sndS_all Y IH 60).ss_ O hc, α, startE x.N ds, hh, env_start r, S, ?_⟩
      have o : Out K (LamX.Tabs (t.tl K)) E α H (bodyM SS (run t.prog k) (startE x.N ds) hh) Q := o
      unfold bodyM at o
      cases q : SS (run t.prog k) (startE x.N ds) hh with
      | next ρ' h' => rw [q] at o; exact fun α' H' σ' ex S' er => o α' H' .non ex S' .non
      | ret d h' => rw [q] at o; exact fun α' H' v ex S' r' => o α' H' v ex S' r'
      | brk ρ' h' => rw [q] at o; exact False.elim o
      | cont ρ' h' => rw [q] at o; exact False.elim o
      | exc c' ρ' h' => rw [q] at o; exact fun α' H' ex S' => o α' H' ex S'
      | stuck => rw [q] at o; exact False.elim o
/-- where the defs stand -/
theorem stat_of (ok : t.ok = true) (X : K.In h) (G : h.Ns mainGlobals mg) (c : He.SaysD t.fa t.fn K) (dok : ∀ x ∈ t.dds, DOk x) (key : Str × Option Str) (d : Def) (e : t.prog.find key = some d) :
    ∃ x ∈ t.dds, d = x.dfn ∧ key = x.d.at_ ∧ (x.d.at_.2 = none → x.d.qual = x.d.at_.1) ∧ ∃ fd, FunD K x.d.name x.d.qual x.d.params x.d.body x.d.scope [] [] (He.fAd K key) fd ∧ Binds K fd d.ps [] ∧ AtKey K mg key (He.fAd K key) := by
  have e : (t.dds.map DD.dfn).find? (fun d => decide (d.key = key)) = some d := e
  obtain ⟨x, hx, rfl⟩ := List.mem_map.mp (List.mem_of_find?_eq_some e)
  have hk : x.dfn.key = key := of_decide_eq_true (List.find?_some (p := fun d : Def => decide (d.key = key)) e)
  have hk : x.d.at_ = key := hk
  obtain ⟨ok0, ok1, ok2, ok3⟩ := ba4 ok
  obtain ⟨b12, b3⟩ := Bool.and_eq_true_iff.mp (List.all_eq_true.mp ok3 x hx)
  obtain ⟨b1, b2⟩ := Bool.and_eq_true_iff.mp b12
  obtain ⟨fd, F⟩ := c.defs (d := x.d) (List.mem_append_left _ (List.mem_map.mpr ⟨x, hx, rfl⟩))
  have z1 : x.d.dvs K = [] := by unfold He.DefD.dvs; rw [List.isEmpty_iff.mp b1]; rfl
  have z2 : x.d.kws K = [] := by unfold He.DefD.kws; rw [List.isEmpty_iff.mp b2]; rfl
  rw [z1, z2, hk] at F
  have hq : x.d.at_.2 = none → x.d.qual = x.d.at_.1 := fun z => by
    rcases hz : x.d.at_ with ⟨n, m⟩
    rw [hz] at z b3
    have z : m = none := z
    subst z
    have b3 : (isDfn (t.gk n) && (x.d.qual == n)) = true := b3
    exact eq_of_beq (Bool.and_eq_true_iff.mp b3).2
  refine ⟨x, hx, rfl, hk.symm, hq, fd, F, F.bindsN (dok x hx).bind, ?_⟩
  rw [hk] at b3
  obtain ⟨n, m⟩ := key
  cases m with
  | none =>
    have b3 : (isDfn (t.gk n) && (x.d.qual == n)) = true := b3
    have b3 := (Bool.and_eq_true_iff.mp b3).1
    have e : t.gk n = .dfn := by
      cases q : t.gk n with
      | dfn => rfl
      | _ => rw [q] at b3; cases b3
    exact ⟨He.glo_ok X G (Tb.fact (f := .glo n) c e (by intro z; cases z) (by simp [faG])), F.kp⟩
  | some m =>
    refine ⟨rfl, fun hm => ?_⟩
    have b3 : (m == "__init__" || t.ms.contains (n, m)) = true := b3
    have b4 : (n, m) ∈ t.ms := by
      rcases Bool.or_eq_true_iff.mp b3 with z | z
      · exact absurd (eq_of_beq z) hm
      · simpa using z
    have q : ∀ f' ∈ [He.Fa.cls n, He.Fa.meth n m], f'.ok K = true := fun f' hf => c.facts (List.mem_append_left _ (List.mem_append_right _ (List.mem_flatMap.mpr ⟨_, b4, hf⟩)))
    exact ⟨He.cls_ok (q _ (by simp)), He.meth_ok (q _ (by simp))⟩
/-- the defs keep their promises -/
theorem clz_all {P : Program} {w : World} {base : Heap} (ok : t.ok = true) (Y : Fx K mg (LamX.Tabs (t.tl K)) t.prog) (td : ∀ x, t.prog.gk x = .told → x = "_law_told" ∧ ToldF K mg) (tb : ∀ p ∈ t.lams, LamX.TabB base mg (He.cT K p).1 (He.cT K p).2) (hnd : (t.lams.map fun p => (He.cT K p).2).Nodup) (X : K.In h) (G : h.Ns mainGlobals mg) (c : He.SaysD t.fa t.fn K) (dok : ∀ x ∈ t.dds, DOk x) : ∀ k, Clz P w K mg base (LamX.Tabs (t.tl K)) t.prog k := by
  have hl0 : ∀ p ∈ t.lams, p.2 = none := fun p hp => by
    have := List.all_eq_true.mp (ba4 ok).1 p hp
    simpa using this
  intro k
  induction k with
  | zero =>
    intro key d e
    obtain ⟨x, hx, ed, ek, hq, fd, F, B, A⟩ := stat_of ok X G c dok key d e
    exact ⟨_, fd, ⟨fun vs H Q E ⟨α, hh, ds, S, r, o⟩ => False.elim o, fun A outer s H args us vs Q E _ _ _ _ ⟨α, hh, ds, S, r, o⟩ => False.elim o⟩, B, A⟩
  | succ k IH =>
    intro key d e
    obtain ⟨x, hx, rfl, ek, hq, fd, F, B, A⟩ := stat_of ok X G c dok key d e
    exact ⟨_, fd, fn_step Y td tb hnd hq hl0 (by rw [← ek]) IH (dok x hx) e F, B, A⟩
/-- the law's def: what the head's end asks -/
theorem law_end {l : PySem.W.OpenLaw} {w : World} {fa : Addr} {n k : Nat} (ok : t.ok = true) (X : K.In h) (G : h.Ns mainGlobals mg) (c : He.SaysX t.fa t.fn [] t.lams t.ex w h K) (dok : ∀ x ∈ t.dds, DOk x) (tell : t.told = true → TellD t) {x : DD} (hf : t.prog.find (("law" : Str), none) = some x.dfn)
    (hp : x.ps = [("script" : Str)]) (hmg : mg "law" = some (.ref fa)) (hn : n ≤ sizeLine) (hrun : ∀ ns : List Int, ns.length ≤ n → ∃ h', run t.prog (k + 1) (("law" : Str), none) [.scr ns] [] = .ok (.bl true) h') :
    LamX.LawAtS l w K (L2N.CX l.prog w) (5 * (k + 1)) n "script" mg fa h := by
  have cd := c.t.d
  have hx := c.more
  have hnd : (t.lams.map fun p => (He.cT K p).2).Nodup := of_decide_eq_true (Bool.and_eq_true_iff.mp hx).2
  have Y := fx_of (T := LamX.Tabs (t.tl K)) ok X G (tabs_ok _) cd
  have td : ∀ x, t.prog.gk x = .told → x = "_law_told" ∧ ToldF K mg := fun x e => by
    have z : gkB t (x, .told) = true := List.all_eq_true.mp (ba4 ok).2.1 _ (Tb.gk_mem e (by intro z; cases z))
    obtain ⟨z1, z2⟩ := Bool.and_eq_true_iff.mp (show ((x == "_law_told") && t.told) = true from z)
    exact ⟨eq_of_beq z1, told_of X G cd hx z2 (tell z2)⟩
  have hl0 : ∀ p ∈ t.lams, p.2 = none := fun p hp => by
    have := List.all_eq_true.mp (ba4 ok).1 p hp
    simpa using this
  obtain ⟨x', hx', ed, ek, hq, fd, F, B, A1, A2⟩ := stat_of ok X G cd dok _ _ hf
  have ef : fa = He.fAd K (("law" : Str), none) := by
    rw [hmg] at A1
    cases A1
    rfl
  have eps : x'.ps = [("script" : Str)] := by rw [← hp]; exact congrArg Def.ps ed.symm
  have b := FunD.bindsA (ps := [("script" : Str)]) F (by rw [← eps]; exact (dok x' hx').bind)
  refine ⟨fd, t.lams.map (He.cT K), spD K (LamX.Tabs (t.tl K)) (run t.prog (k + 1) (("law" : Str), none)), fun p hp => ?_, fun p hp => ?_, fun p hp => ?_, fun s u => b s [u] rfl, fun H a ns hl _ hT hS => ?_, fun base bX bG bT => ?_⟩
  · obtain ⟨q, hq, rfl⟩ := List.mem_map.mp hp
    exact c.empty q hq
  · obtain ⟨q, hq, rfl⟩ := List.mem_map.mp hp
    exact c.out q hq
  · obtain ⟨q, hq, rfl⟩ := List.mem_map.mp hp
    exact PySem.W.codeHd_of_K X (c.hd q hq)
  · obtain ⟨h', e⟩ := hrun ns hl
    have t0 : LamX.Tabs (t.tl K) H := fun p hp => by
      obtain ⟨q, hq, rfl⟩ := List.mem_map.mp hp
      exact LamX.TabS.nil (hT _ (List.mem_map.mpr ⟨q, hq, rfl⟩))
    have S0 : Sim K (LamX.Tabs (t.tl K)) ⟨[], [], K⟩ [] H := ⟨rfl, List.nodup_nil, fun n a c e => by simp at e, t0, fun a ha => by simp at ha, rfl⟩
    have sq : SqS ⟨[], [], K⟩ H a (ns.map V.int) := by
      rcases hS with z | z
      · exact .inl ⟨z, fun q => by rcases q with q | q <;> simp at q⟩
      · exact .inr z
    refine ⟨_, [], [.scr ns], S0, .cons (.scr sq (Nat.le_trans hl hn)) .nil, ?_⟩
    rw [e]
    intro α' H' v ex S' r
    cases r
    rfl
  · have tb : ∀ p ∈ t.lams, LamX.TabB base mg (He.cT K p).1 (He.cT K p).2 := fun p hp => bT _ (List.mem_map.mpr ⟨p, hp, rfl⟩)
    have Z := clz_all (P := l.prog) (w := w) (base := base) ok Y td tb hnd bX bG cd dok k
    rw [ef, ← eps]
    exact fn_step Y td tb hnd hq hl0 (by rw [← ek]) Z (dok x' hx') (by rw [hf, ed]) F
end
end Cr
set_option Elab.async false
set_option linter.all false
set_option maxRecDepth 100000
set_option maxHeartbeats 2000000
/-! A law's end, what it may let out told by the world. -/
namespace Cr
open PySem PySem.Spec PyProof.Rows L2
theorem walk_w {l : PySem.W.OpenLaw} {n k : Nat} {q : Program} {loose : List Str} {XP : (Str → Option Value) → Heap → Prop} {YP : World → Heap → Prop} {d : DefRec} (hn : l.most = some n) (hn2 : n ≤ sizeLine) (hdf : d.params.defaults = []) (hr : Room k callerA)
    (F : ∀ (w : World) (mg : Str → Option Value) (fa : Addr) (h : Heap), YP w h → h.Ns mainGlobals mg → mg d.name = some (.ref fa) → ∃ K : PySem.W.Frag, K.In h ∧ LamX.LawAtS l w K (L2N.CX l.prog w) k n "script" mg fa h) :
    PySem.W.WalkO q loose XP YP l.row.toRowW d [] (fun f vs => PySem.call f vs) :=
  LamX.walk_ofTsE (CX := fun w => L2N.CX l.prog w) hn hn2 hdf hr F fun w H s e s' z => by
    obtain ⟨_, _, _, _, _, _, _, _, _, _, _, _, z⟩ := z
    exact z
end Cr
set_option Elab.async false
set_option linter.all false
set_option maxRecDepth 100000
set_option maxHeartbeats 1000000
namespace Cr
open PySem
/-- the stores of a target -/
def stN (i : Nat) (d : D) (ρ : Env) : M Env := pure (ρ.set i (some d))
def stT (is : List Nat) (d : D) (ρ : Env) : M Env := match d with
  | .tup l => if l.length = is.length then pure ((is.zip l).foldl (fun ρ p => ρ.set p.1 (some p.2)) ρ) else M.stuck
  | _ => M.stuck
def S_is_whole (fl ms : List (Str × Str)) : ClS := fun o => (seqS (fun ρ => liftE (((getV ρ 0 >>= fun x5 => isiM x5 .int >>= fun b6 => pure (.bl b6)) >>= fun x2 => asBool x2 >>= fun c3 => if c3 then (((getV ρ 0 >>= fun x12 => isiM x12 .bool >>= fun b13 => pure (.bl b13)) >>= fun x9 => asBool x9 >>= fun b10 => pure (.bl (!b10))) >>= fun x7 => asBool x7 >>= fun c8 => if c8 then ((getV ρ 1 >>= fun x16 => getV ρ 0 >>= fun y17 => cmpM .LtE x16 y17 >>= fun c18 => if c18 then (getV ρ 2 >>= fun z19 => cmpM .LtE y17 z19 >>= fun d20 => pure (.bl d20)) else pure (.bl false)) >>= fun x14 => asBool x14) else pure false) else pure false) >>= fun b1 => pure (.bl b1)) ρ fun d h => .ret d h)
  (fun ρ h => .next ρ h))
def S_is_bundle (fl ms : List (Str × Str)) : ClS := fun o => (seqS (fun ρ => liftE ((((getV ρ 0 >>= fun x6 => isiM x6 .tuple >>= fun b7 => pure (.bl b7)) >>= fun x4 => asBool x4) >>= fun b3 => pure (!b3)) >>= fun c2 => if c2 then pure true else ((((getV ρ 0 >>= fun x13 => pure [] >>= fun l14 => pure (x13 :: l14)) >>= fun l12 => b_len l12) >>= fun x9 => pure (.int 7) >>= fun y10 => cmpM .Gt x9 y10) >>= fun c8 => if c8 then pure true else ((((((getV ρ 0 >>= fun x23 => itM x23) >>= fun it21 => M.nox (compIt (turnC (stN 2) (fun ρ => pure true) (fun ρ => ((getV ρ 2 >>= fun x25 => (pure (.int 0) >>= fun x27 => (getV ρ 1 >>= fun x29 => pure [] >>= fun l30 => pure (x29 :: l30)) >>= fun l28 => pure (x27 :: l28)) >>= fun l26 => pure (x25 :: l26)) >>= fun l24 => o ("is_whole", none) l24)) (wipeE ρ [2])) it21) >>= fun l22 => newL false l22) >>= fun x19 => pure [] >>= fun l20 => pure (x19 :: l20)) >>= fun l18 => b_all l18) >>= fun x17 => asBool x17) >>= fun b16 => pure (!b16)))) ρ fun c1 h => if c1 then (seqS (fun ρ => liftE (pure (.bl false)) ρ fun d h => .ret d h)
    (fun ρ h => .next ρ h)) ρ h else (fun ρ h => .next ρ h) ρ h)
  (seqS (fun ρ => liftE ((((getV ρ 0 >>= fun x36 => (getV ρ 0 >>= fun x38 => (pure (.int 1) >>= fun x41 => partM x41) >>= fun y39 => pure none >>= fun z40 => sliceM false x38 y39 z40) >>= fun y37 => zipM x36 y37) >>= fun it34 => M.nox (compIt (turnC (stT [2, 3]) (fun ρ => pure true) (fun ρ => (getV ρ 2 >>= fun x42 => getV ρ 3 >>= fun y43 => cmpM .LtE x42 y43 >>= fun c44 => pure (.bl c44))) (wipeE ρ [2, 3])) it34) >>= fun l35 => newL false l35) >>= fun x32 => pure [] >>= fun l33 => pure (x32 :: l33)) >>= fun l31 => b_all l31) ρ fun d h => .ret d h)
  (fun ρ h => .next ρ h)))
def S_is_mail (fl ms : List (Str × Str)) : ClS := fun o => (seqS (fun ρ => liftE ((((getV ρ 0 >>= fun x6 => isiM x6 .tuple >>= fun b7 => pure (.bl b7)) >>= fun x4 => asBool x4) >>= fun b3 => pure (!b3)) >>= fun c2 => if c2 then pure true else ((((getV ρ 0 >>= fun x13 => pure [] >>= fun l14 => pure (x13 :: l14)) >>= fun l12 => b_len l12) >>= fun x9 => pure (.int 2) >>= fun y10 => cmpM .NotEq x9 y10) >>= fun c8 => if c8 then pure true else ((((((getV ρ 0 >>= fun x23 => itM x23) >>= fun it21 => M.nox (compIt (turnC (stN 1) (fun ρ => pure true) (fun ρ => (getV ρ 1 >>= fun x25 => isiM x25 .tuple >>= fun b26 => pure (.bl b26))) (wipeE ρ [1])) it21) >>= fun l22 => newL false l22) >>= fun x19 => pure [] >>= fun l20 => pure (x19 :: l20)) >>= fun l18 => b_all l18) >>= fun x17 => asBool x17) >>= fun b16 => pure (!b16)))) ρ fun c1 h => if c1 then (seqS (fun ρ => liftE (pure (.bl false)) ρ fun d h => .ret d h)
    (fun ρ h => .next ρ h)) ρ h else (fun ρ h => .next ρ h) ρ h)
  (seqS (fun ρ => liftE (((((getV ρ 0 >>= fun x33 => pure (.int 0) >>= fun y34 => idxM x33 y34) >>= fun x31 => ((((getV ρ 0 >>= fun x40 => pure (.int 1) >>= fun y41 => idxM x40 y41) >>= fun x38 => pure [] >>= fun l39 => pure (x38 :: l39)) >>= fun l37 => b_len l37) >>= fun x35 => pure [] >>= fun l36 => pure (x35 :: l36)) >>= fun l32 => pure (x31 :: l32)) >>= fun l30 => o ("is_bundle", none) l30) >>= fun x28 => asBool x28 >>= fun c29 => if c29 then ((((getV ρ 0 >>= fun x47 => pure (.int 1) >>= fun y48 => idxM x47 y48) >>= fun x45 => ((((getV ρ 0 >>= fun x54 => pure (.int 0) >>= fun y55 => idxM x54 y55) >>= fun x52 => pure [] >>= fun l53 => pure (x52 :: l53)) >>= fun l51 => b_len l51) >>= fun x49 => pure [] >>= fun l50 => pure (x49 :: l50)) >>= fun l46 => pure (x45 :: l46)) >>= fun l44 => o ("is_bundle", none) l44) >>= fun x42 => asBool x42) else pure false) >>= fun b27 => pure (.bl b27)) ρ fun d h => .ret d h)
  (fun ρ h => .next ρ h)))
def S_need_mail (fl ms : List (Str × Str)) : ClS := fun o => (seqS (fun ρ => liftE ((((getV ρ 0 >>= fun x5 => pure [] >>= fun l6 => pure (x5 :: l6)) >>= fun l4 => o ("is_mail", none) l4) >>= fun x3 => asBool x3) >>= fun b2 => pure (!b2)) ρ fun c1 h => if c1 then (seqS (fun ρ => fun h => .exc "BadMail" ρ h)
    (fun ρ h => .next ρ h)) ρ h else (fun ρ h => .next ρ h) ρ h)
  (fun ρ h => .next ρ h))
def S_is_letter (fl ms : List (Str × Str)) : ClS := fun o => (seqS (fun ρ => liftE ((((getV ρ 1 >>= fun x6 => isiM x6 .tuple >>= fun b7 => pure (.bl b7)) >>= fun x4 => asBool x4) >>= fun b3 => pure (!b3)) >>= fun c2 => if c2 then pure true else ((((getV ρ 1 >>= fun x13 => pure [] >>= fun l14 => pure (x13 :: l14)) >>= fun l12 => b_len l12) >>= fun x9 => pure (.int 2) >>= fun y10 => cmpM .NotEq x9 y10) >>= fun c8 => if c8 then pure true else (((((getV ρ 1 >>= fun x21 => pure (.int 0) >>= fun y22 => idxM x21 y22) >>= fun x19 => (pure (.int 0) >>= fun x23 => (pure (.int 1) >>= fun x25 => pure [] >>= fun l26 => pure (x25 :: l26)) >>= fun l24 => pure (x23 :: l24)) >>= fun l20 => pure (x19 :: l20)) >>= fun l18 => o ("is_whole", none) l18) >>= fun x17 => asBool x17) >>= fun b16 => pure (!b16)))) ρ fun c1 h => if c1 then (seqS (fun ρ => liftE (pure (.bl false)) ρ fun d h => .ret d h)
    (fun ρ h => .next ρ h)) ρ h else (fun ρ h => .next ρ h) ρ h)
  (seqS (fun ρ => liftE (((getV ρ 1 >>= fun x30 => pure (.int 1) >>= fun y31 => idxM x30 y31) >>= fun x28 => (pure (.int 0) >>= fun x32 => (((((getV ρ 0 >>= fun x41 => (getV ρ 1 >>= fun x43 => pure (.int 0) >>= fun y44 => idxM x43 y44) >>= fun y42 => idxM x41 y42) >>= fun x39 => pure [] >>= fun l40 => pure (x39 :: l40)) >>= fun l38 => b_len l38) >>= fun x36 => pure (.int 1) >>= fun y37 => binM .Sub false x36 y37) >>= fun x34 => pure [] >>= fun l35 => pure (x34 :: l35)) >>= fun l33 => pure (x32 :: l33)) >>= fun l29 => pure (x28 :: l29)) >>= fun l27 => o ("is_whole", none) l27) ρ fun d h => .ret d h)
  (fun ρ h => .next ρ h)))
def S_need_letter (fl ms : List (Str × Str)) : ClS := fun o => (seqS (fun ρ => liftE ((((getV ρ 0 >>= fun x5 => (getV ρ 1 >>= fun x7 => pure [] >>= fun l8 => pure (x7 :: l8)) >>= fun l6 => pure (x5 :: l6)) >>= fun l4 => o ("is_letter", none) l4) >>= fun x3 => asBool x3) >>= fun b2 => pure (!b2)) ρ fun c1 h => if c1 then (seqS (fun ρ => fun h => .exc "BadLetter" ρ h)
    (fun ρ h => .next ρ h)) ρ h else (fun ρ h => .next ρ h) ρ h)
  (fun ρ h => .next ρ h))
def S_has_read (fl ms : List (Str × Str)) : ClS := fun o => (seqS (fun ρ => liftE ((((getV ρ 1 >>= fun x7 => pure (.int 0) >>= fun y8 => idxM x7 y8) >>= fun x4 => (getV ρ 2 >>= fun x9 => pure (.int 0) >>= fun y10 => idxM x9 y10) >>= fun y5 => cmpM .NotEq x4 y5 >>= fun c6 => pure (.bl c6)) >>= fun x2 => asBool x2 >>= fun c3 => if c3 then ((((getV ρ 0 >>= fun x18 => (getV ρ 1 >>= fun x20 => pure (.int 0) >>= fun y21 => idxM x20 y21) >>= fun y19 => idxM x18 y19) >>= fun x16 => (getV ρ 1 >>= fun x22 => pure (.int 1) >>= fun y23 => idxM x22 y23) >>= fun y17 => idxM x16 y17) >>= fun x13 => (getV ρ 2 >>= fun x24 => pure (.int 1) >>= fun y25 => idxM x24 y25) >>= fun y14 => cmpM .Gt x13 y14 >>= fun c15 => pure (.bl c15)) >>= fun x11 => asBool x11) else pure false) >>= fun b1 => pure (.bl b1)) ρ fun d h => .ret d h)
  (fun ρ h => .next ρ h))
def S_had_read (fl ms : List (Str × Str)) : ClS := fun o => (seqS (fun ρ => liftE ((getV ρ 0 >>= fun x2 => pure [] >>= fun l3 => pure (x2 :: l3)) >>= fun l1 => o ("need_mail", none) l1) ρ fun _ h => .next ρ h)
  (seqS (fun ρ => liftE ((getV ρ 0 >>= fun x5 => (getV ρ 1 >>= fun x7 => pure [] >>= fun l8 => pure (x7 :: l8)) >>= fun l6 => pure (x5 :: l6)) >>= fun l4 => o ("need_letter", none) l4) ρ fun _ h => .next ρ h)
  (seqS (fun ρ => liftE ((getV ρ 0 >>= fun x10 => (getV ρ 2 >>= fun x12 => pure [] >>= fun l13 => pure (x12 :: l13)) >>= fun l11 => pure (x10 :: l11)) >>= fun l9 => o ("need_letter", none) l9) ρ fun _ h => .next ρ h)
  (seqS (fun ρ => liftE ((getV ρ 0 >>= fun x15 => (getV ρ 1 >>= fun x17 => (getV ρ 2 >>= fun x19 => pure [] >>= fun l20 => pure (x19 :: l20)) >>= fun l18 => pure (x17 :: l18)) >>= fun l16 => pure (x15 :: l16)) >>= fun l14 => o ("has_read", none) l14) ρ fun d h => .ret d h)
  (fun ρ h => .next ρ h)))))
def L1_all_pairs (fl ms : List (Str × Str)) (o : Ora) : Env → AH → RS := (seqS (fun ρ => liftE ((getV ρ 1 >>= fun x12 => (((((getV ρ 0 >>= fun x21 => pure (.int 1) >>= fun y22 => idxM x21 y22) >>= fun x19 => pure [] >>= fun l20 => pure (x19 :: l20)) >>= fun l18 => b_len l18) >>= fun x16 => rng1M x16) >>= fun it14 => M.nox (compIt (turnC (stN 3) (fun ρ => pure true) (fun ρ => ((getV ρ 2 >>= fun x24 => (getV ρ 3 >>= fun x26 => pure [] >>= fun l27 => pure (x26 :: l27)) >>= fun l25 => pure (x24 :: l25)) >>= fun l23 => tupM l23)) (wipeE ρ [3])) it14) >>= fun l15 => newL false l15) >>= fun y13 => binM .Add false x12 y13) >>= fun d11 => stN 1 d11 ρ) ρ fun ρ h => .next ρ h)
  (fun ρ h => .next ρ h))
def S_all_pairs (fl ms : List (Str × Str)) : ClS := fun o => (seqS (fun ρ => liftE ((pure [] >>= fun l2 => dispM false l2) >>= fun d1 => stN 1 d1 ρ) ρ fun ρ h => .next ρ h)
  (seqS (fun ρ => liftE ((((getV ρ 0 >>= fun x9 => pure (.int 0) >>= fun y10 => idxM x9 y10) >>= fun x7 => pure [] >>= fun l8 => pure (x7 :: l8)) >>= fun l6 => b_len l6) >>= fun x4 => rng1M x4) ρ fun it3 h => loopOf (turnS (stN 2) (L1_all_pairs fl ms o)) it3 ρ h)
  (seqS (fun ρ => liftE (getV ρ 1) ρ fun d h => .ret d h)
  (fun ρ h => .next ρ h))))
def S_all_barring (fl ms : List (Str × Str)) : ClS := fun o => (seqS (fun ρ => liftE (((getV ρ 0 >>= fun x3 => pure [] >>= fun l4 => pure (x3 :: l4)) >>= fun l2 => o ("all_pairs", none) l2) >>= fun d1 => stN 1 d1 ρ) ρ fun ρ h => .next ρ h)
  (seqS (fun ρ => liftE ((getV ρ 1 >>= fun x23 => itM x23) >>= fun it5 => M.nox (compIt (turnC (stT [2, 3]) (fun ρ => ((((getV ρ 0 >>= fun x13 => pure (.int 0) >>= fun y14 => idxM x13 y14) >>= fun x11 => getV ρ 2 >>= fun y12 => idxM x11 y12) >>= fun x8 => getV ρ 3 >>= fun y9 => cmpM .Gt x8 y9) >>= fun c7 => if c7 then (((getV ρ 0 >>= fun x21 => pure (.int 1) >>= fun y22 => idxM x21 y22) >>= fun x19 => getV ρ 3 >>= fun y20 => idxM x19 y20) >>= fun x16 => getV ρ 2 >>= fun y17 => cmpM .Gt x16 y17) else pure false)) (fun ρ => ((getV ρ 2 >>= fun x25 => (getV ρ 3 >>= fun x27 => pure [] >>= fun l28 => pure (x27 :: l28)) >>= fun l26 => pure (x25 :: l26)) >>= fun l24 => tupM l24)) (wipeE ρ [2, 3])) it5) >>= fun l6 => newL false l6) ρ fun d h => .ret d h)
  (fun ρ h => .next ρ h)))
def S_is_there (fl ms : List (Str × Str)) : ClS := fun o => (seqS (fun ρ => liftE (((getV ρ 0 >>= fun x5 => pure [] >>= fun l6 => pure (x5 :: l6)) >>= fun l4 => o ("all_barring", none) l4) >>= fun x1 => (pure [] >>= fun l7 => dispM false l7) >>= fun y2 => cmpM .Eq x1 y2 >>= fun c3 => pure (.bl c3)) ρ fun d h => .ret d h)
  (fun ρ h => .next ρ h))
def S_can_be (fl ms : List (Str × Str)) : ClS := fun o => (seqS (fun ρ => liftE ((getV ρ 0 >>= fun x2 => pure [] >>= fun l3 => pure (x2 :: l3)) >>= fun l1 => o ("need_mail", none) l1) ρ fun _ h => .next ρ h)
  (seqS (fun ρ => liftE ((getV ρ 0 >>= fun x5 => pure [] >>= fun l6 => pure (x5 :: l6)) >>= fun l4 => o ("is_there", none) l4) ρ fun d h => .ret d h)
  (fun ρ h => .next ρ h)))
def S_barring (fl ms : List (Str × Str)) : ClS := fun o => (seqS (fun ρ => liftE ((getV ρ 0 >>= fun x2 => pure [] >>= fun l3 => pure (x2 :: l3)) >>= fun l1 => o ("need_mail", none) l1) ρ fun _ h => .next ρ h)
  (seqS (fun ρ => liftE (((getV ρ 0 >>= fun x6 => pure [] >>= fun l7 => pure (x6 :: l7)) >>= fun l5 => o ("all_barring", none) l5) >>= fun d4 => stN 1 d4 ρ) ρ fun ρ h => .next ρ h)
  (seqS (fun ρ => liftE ((getV ρ 1 >>= fun x9 => (pure [] >>= fun l12 => dispM false l12) >>= fun y10 => cmpM .NotEq x9 y10) >>= fun c8 => if c8 then (getV ρ 1 >>= fun x13 => pure (.int 0) >>= fun y14 => idxM x13 y14) else pure .non) ρ fun d h => .ret d h)
  (fun ρ h => .next ρ h))))
def S_all_crossed (fl ms : List (Str × Str)) : ClS := fun o => (seqS (fun ρ => liftE ((((getV ρ 0 >>= fun x21 => pure [] >>= fun l22 => pure (x21 :: l22)) >>= fun l20 => o ("all_pairs", none) l20) >>= fun x19 => itM x19) >>= fun it1 => M.nox (compIt (turnC (stT [1, 2]) (fun ρ => ((((getV ρ 0 >>= fun x9 => pure (.int 0) >>= fun y10 => idxM x9 y10) >>= fun x7 => getV ρ 1 >>= fun y8 => idxM x7 y8) >>= fun x4 => getV ρ 2 >>= fun y5 => cmpM .LtE x4 y5) >>= fun c3 => if c3 then (((getV ρ 0 >>= fun x17 => pure (.int 1) >>= fun y18 => idxM x17 y18) >>= fun x15 => getV ρ 2 >>= fun y16 => idxM x15 y16) >>= fun x12 => getV ρ 1 >>= fun y13 => cmpM .LtE x12 y13) else pure false)) (fun ρ => ((getV ρ 1 >>= fun x24 => (getV ρ 2 >>= fun x26 => pure [] >>= fun l27 => pure (x26 :: l27)) >>= fun l25 => pure (x24 :: l25)) >>= fun l23 => tupM l23)) (wipeE ρ [1, 2])) it1) >>= fun l2 => newL false l2) ρ fun d h => .ret d h)
  (fun ρ h => .next ρ h))
def S_crossed (fl ms : List (Str × Str)) : ClS := fun o => (seqS (fun ρ => liftE ((getV ρ 0 >>= fun x2 => pure [] >>= fun l3 => pure (x2 :: l3)) >>= fun l1 => o ("need_mail", none) l1) ρ fun _ h => .next ρ h)
  (seqS (fun ρ => liftE ((getV ρ 0 >>= fun x5 => pure [] >>= fun l6 => pure (x5 :: l6)) >>= fun l4 => o ("all_crossed", none) l4) ρ fun d h => .ret d h)
  (fun ρ h => .next ρ h)))
def S_crossed_with (fl ms : List (Str × Str)) : ClS := fun o => (seqS (fun ρ => liftE ((getV ρ 0 >>= fun x2 => pure [] >>= fun l3 => pure (x2 :: l3)) >>= fun l1 => o ("need_mail", none) l1) ρ fun _ h => .next ρ h)
  (seqS (fun ρ => liftE ((getV ρ 0 >>= fun x5 => (getV ρ 1 >>= fun x7 => pure [] >>= fun l8 => pure (x7 :: l8)) >>= fun l6 => pure (x5 :: l6)) >>= fun l4 => o ("need_letter", none) l4) ρ fun _ h => .next ρ h)
  (seqS (fun ρ => liftE ((((((getV ρ 0 >>= fun x25 => pure [] >>= fun l26 => pure (x25 :: l26)) >>= fun l24 => o ("all_crossed", none) l24) >>= fun x23 => itM x23) >>= fun it12 => M.nox (compIt (turnC (stN 2) (fun ρ => ((getV ρ 2 >>= fun x17 => (getV ρ 1 >>= fun x19 => pure (.int 0) >>= fun y20 => idxM x19 y20) >>= fun y18 => idxM x17 y18) >>= fun x14 => (getV ρ 1 >>= fun x21 => pure (.int 1) >>= fun y22 => idxM x21 y22) >>= fun y15 => cmpM .Eq x14 y15)) (fun ρ => getV ρ 2) (wipeE ρ [2])) it12) >>= fun l13 => newL false l13) >>= fun x10 => pure [] >>= fun l11 => pure (x10 :: l11)) >>= fun l9 => b_len l9) ρ fun d h => .ret d h)
  (fun ρ h => .next ρ h))))
def S_need_dates (fl ms : List (Str × Str)) : ClS := fun o => (seqS (fun ρ => liftE ((getV ρ 0 >>= fun x2 => pure [] >>= fun l3 => pure (x2 :: l3)) >>= fun l1 => o ("need_mail", none) l1) ρ fun _ h => .next ρ h)
  (seqS (fun ρ => liftE ((((getV ρ 1 >>= fun x9 => isiM x9 .dict >>= fun b10 => pure (.bl b10)) >>= fun x7 => asBool x7) >>= fun b6 => pure (!b6)) >>= fun c5 => if c5 then pure true else ((((((getV ρ 1 >>= fun x19 => itM x19) >>= fun it17 => M.nox (compIt (turnC (stN 2) (fun ρ => pure true) (fun ρ => ((getV ρ 0 >>= fun x21 => (getV ρ 2 >>= fun x23 => pure [] >>= fun l24 => pure (x23 :: l24)) >>= fun l22 => pure (x21 :: l22)) >>= fun l20 => o ("is_letter", none) l20)) (wipeE ρ [2])) it17) >>= fun l18 => newL false l18) >>= fun x15 => pure [] >>= fun l16 => pure (x15 :: l16)) >>= fun l14 => b_all l14) >>= fun x13 => asBool x13) >>= fun b12 => pure (!b12))) ρ fun c4 h => if c4 then (seqS (fun ρ => fun h => .exc "BadDates" ρ h)
    (fun ρ h => .next ρ h)) ρ h else (fun ρ h => .next ρ h) ρ h)
  (seqS (fun ρ => liftE ((((((getV ρ 1 >>= fun x33 => itM x33) >>= fun it31 => M.nox (compIt (turnC (stN 2) (fun ρ => pure true) (fun ρ => (((getV ρ 1 >>= fun x37 => getV ρ 2 >>= fun y38 => idxM x37 y38) >>= fun x35 => (pure (.int 0) >>= fun x39 => (pure (.int 99) >>= fun x41 => pure [] >>= fun l42 => pure (x41 :: l42)) >>= fun l40 => pure (x39 :: l40)) >>= fun l36 => pure (x35 :: l36)) >>= fun l34 => o ("is_whole", none) l34)) (wipeE ρ [2])) it31) >>= fun l32 => newL false l32) >>= fun x29 => pure [] >>= fun l30 => pure (x29 :: l30)) >>= fun l28 => b_all l28) >>= fun x27 => asBool x27) >>= fun b26 => pure (!b26)) ρ fun c25 h => if c25 then (seqS (fun ρ => fun h => .exc "BadDates" ρ h)
    (fun ρ h => .next ρ h)) ρ h else (fun ρ h => .next ρ h) ρ h)
  (fun ρ h => .next ρ h))))
def S_need_road (fl ms : List (Str × Str)) : ClS := fun o => (seqS (fun ρ => liftE ((getV ρ 0 >>= fun x2 => (getV ρ 1 >>= fun x4 => pure [] >>= fun l5 => pure (x4 :: l5)) >>= fun l3 => pure (x2 :: l3)) >>= fun l1 => o ("need_dates", none) l1) ρ fun _ h => .next ρ h)
  (seqS (fun ρ => liftE ((((getV ρ 2 >>= fun x10 => (pure (.int 0) >>= fun x12 => (pure (.int 9) >>= fun x14 => pure [] >>= fun l15 => pure (x14 :: l15)) >>= fun l13 => pure (x12 :: l13)) >>= fun l11 => pure (x10 :: l11)) >>= fun l9 => o ("is_whole", none) l9) >>= fun x8 => asBool x8) >>= fun b7 => pure (!b7)) ρ fun c6 h => if c6 then (seqS (fun ρ => fun h => .exc "BadNumber" ρ h)
    (fun ρ h => .next ρ h)) ρ h else (fun ρ h => .next ρ h) ρ h)
  (fun ρ h => .next ρ h)))
def L2_gaps (fl ms : List (Str × Str)) (o : Ora) : Env → AH → RS := (seqS (fun ρ => liftE (((getV ρ 3 >>= fun x18 => pure (.int 0) >>= fun y19 => idxM x18 y19) >>= fun x15 => (getV ρ 4 >>= fun x20 => pure (.int 0) >>= fun y21 => idxM x20 y21) >>= fun y16 => cmpM .Eq x15 y16) >>= fun c14 => if c14 then ((getV ρ 4 >>= fun x26 => pure (.int 1) >>= fun y27 => idxM x26 y27) >>= fun x23 => ((getV ρ 3 >>= fun x30 => pure (.int 1) >>= fun y31 => idxM x30 y31) >>= fun x28 => pure (.int 1) >>= fun y29 => binM .Add false x28 y29) >>= fun y24 => cmpM .Eq x23 y24) else pure false) ρ fun c13 h => if c13 then (seqS (fun ρ => liftE (getV ρ 2 >>= fun x32 => methM ms o "append" x32 (((getV ρ 3 >>= fun x36 => (getV ρ 4 >>= fun x38 => (pure (.int 0) >>= fun x40 => pure [] >>= fun l41 => pure (x40 :: l41)) >>= fun l39 => pure (x38 :: l39)) >>= fun l37 => pure (x36 :: l37)) >>= fun l35 => tupM l35) >>= fun x33 => pure [] >>= fun l34 => pure (x33 :: l34))) ρ fun _ h => .next ρ h)
    (fun ρ h => .next ρ h)) ρ h else (seqS (fun ρ => liftE (((getV ρ 0 >>= fun x45 => (getV ρ 4 >>= fun x47 => (getV ρ 3 >>= fun x49 => pure [] >>= fun l50 => pure (x49 :: l50)) >>= fun l48 => pure (x47 :: l48)) >>= fun l46 => pure (x45 :: l46)) >>= fun l44 => o ("has_read", none) l44) >>= fun x43 => asBool x43) ρ fun c42 h => if c42 then (seqS (fun ρ => liftE (getV ρ 2 >>= fun x51 => methM ms o "append" x51 (((getV ρ 3 >>= fun x55 => (getV ρ 4 >>= fun x57 => (getV ρ 1 >>= fun x59 => pure [] >>= fun l60 => pure (x59 :: l60)) >>= fun l58 => pure (x57 :: l58)) >>= fun l56 => pure (x55 :: l56)) >>= fun l54 => tupM l54) >>= fun x52 => pure [] >>= fun l53 => pure (x52 :: l53))) ρ fun _ h => .next ρ h)
      (fun ρ h => .next ρ h)) ρ h else (fun ρ h => .next ρ h) ρ h)
    (fun ρ h => .next ρ h)) ρ h)
  (fun ρ h => .next ρ h))
def L1_gaps (fl ms : List (Str × Str)) (o : Ora) : Env → AH → RS := (seqS (fun ρ => liftE (((getV ρ 0 >>= fun x11 => pure [] >>= fun l12 => pure (x11 :: l12)) >>= fun l10 => o ("all_letters", none) l10) >>= fun x9 => itM x9) ρ fun it8 h => loopOf (turnS (stN 4) (L2_gaps fl ms o)) it8 ρ h)
  (fun ρ h => .next ρ h))
def S_gaps (fl ms : List (Str × Str)) : ClS := fun o => (seqS (fun ρ => liftE ((pure [] >>= fun l2 => dispM true l2) >>= fun d1 => stN 2 d1 ρ) ρ fun ρ h => .next ρ h)
  (seqS (fun ρ => liftE (((getV ρ 0 >>= fun x6 => pure [] >>= fun l7 => pure (x6 :: l7)) >>= fun l5 => o ("all_letters", none) l5) >>= fun x4 => itM x4) ρ fun it3 h => loopOf (turnS (stN 3) (L1_gaps fl ms o)) it3 ρ h)
  (seqS (fun ρ => liftE (getV ρ 2) ρ fun d h => .ret d h)
  (fun ρ h => .next ρ h))))
def S_days_fit (fl ms : List (Str × Str)) : ClS := fun o => (seqS (fun ρ => liftE ((((getV ρ 0 >>= fun x5 => pure [] >>= fun l6 => pure (x5 :: l6)) >>= fun l4 => o ("is_there", none) l4) >>= fun x3 => asBool x3) >>= fun b2 => pure (!b2)) ρ fun c1 h => if c1 then (seqS (fun ρ => liftE (pure (.bl false)) ρ fun d h => .ret d h)
    (fun ρ h => .next ρ h)) ρ h else (fun ρ h => .next ρ h) ρ h)
  (seqS (fun ρ => liftE (((getV ρ 0 >>= fun x9 => (getV ρ 1 >>= fun x11 => (getV ρ 2 >>= fun x13 => pure [] >>= fun l14 => pure (x13 :: l14)) >>= fun l12 => pure (x11 :: l12)) >>= fun l10 => pure (x9 :: l10)) >>= fun l8 => o ("early_days", none) l8) >>= fun d7 => stN 3 d7 ρ) ρ fun ρ h => .next ρ h)
  (seqS (fun ρ => liftE ((((getV ρ 1 >>= fun x20 => itM x20) >>= fun it18 => M.nox (compIt (turnC (stN 4) (fun ρ => pure true) (fun ρ => ((getV ρ 3 >>= fun x24 => getV ρ 4 >>= fun y25 => idxM x24 y25) >>= fun x21 => (getV ρ 1 >>= fun x26 => getV ρ 4 >>= fun y27 => idxM x26 y27) >>= fun y22 => cmpM .Eq x21 y22 >>= fun c23 => pure (.bl c23))) (wipeE ρ [4])) it18) >>= fun l19 => newL false l19) >>= fun x16 => pure [] >>= fun l17 => pure (x16 :: l17)) >>= fun l15 => b_all l15) ρ fun d h => .ret d h)
  (fun ρ h => .next ρ h))))
def S_can_date (fl ms : List (Str × Str)) : ClS := fun o => (seqS (fun ρ => liftE ((getV ρ 0 >>= fun x2 => (getV ρ 1 >>= fun x4 => (getV ρ 2 >>= fun x6 => pure [] >>= fun l7 => pure (x6 :: l7)) >>= fun l5 => pure (x4 :: l5)) >>= fun l3 => pure (x2 :: l3)) >>= fun l1 => o ("need_road", none) l1) ρ fun _ h => .next ρ h)
  (seqS (fun ρ => liftE ((getV ρ 0 >>= fun x9 => (getV ρ 1 >>= fun x11 => (getV ρ 2 >>= fun x13 => pure [] >>= fun l14 => pure (x13 :: l14)) >>= fun l12 => pure (x11 :: l12)) >>= fun l10 => pure (x9 :: l10)) >>= fun l8 => o ("days_fit", none) l8) ρ fun d h => .ret d h)
  (fun ρ h => .next ρ h)))
def S_may_write (fl ms : List (Str × Str)) : ClS := fun o => (seqS (fun ρ => liftE ((((getV ρ 1 >>= fun x7 => getV ρ 2 >>= fun y8 => idxM x7 y8) >>= fun x4 => (((getV ρ 0 >>= fun x12 => getV ρ 2 >>= fun y13 => idxM x12 y13) >>= fun x10 => pure [] >>= fun l11 => pure (x10 :: l11)) >>= fun l9 => b_len l9) >>= fun y5 => cmpM .Lt x4 y5 >>= fun c6 => pure (.bl c6)) >>= fun x2 => asBool x2 >>= fun c3 => if c3 then ((((getV ρ 0 >>= fun x21 => getV ρ 2 >>= fun y22 => idxM x21 y22) >>= fun x19 => (getV ρ 1 >>= fun x23 => getV ρ 2 >>= fun y24 => idxM x23 y24) >>= fun y20 => idxM x19 y20) >>= fun x16 => (getV ρ 1 >>= fun x25 => (pure (.int 1) >>= fun x27 => getV ρ 2 >>= fun y28 => binM .Sub false x27 y28) >>= fun y26 => idxM x25 y26) >>= fun y17 => cmpM .LtE x16 y17 >>= fun c18 => pure (.bl c18)) >>= fun x14 => asBool x14) else pure false) >>= fun b1 => pure (.bl b1)) ρ fun d h => .ret d h)
  (fun ρ h => .next ρ h))
def S_after (fl ms : List (Str × Str)) : ClS := fun o => (seqS (fun ρ => liftE ((getV ρ 1 >>= fun x2 => pure (.int 0) >>= fun y3 => cmpM .Eq x2 y3) >>= fun c1 => if c1 then ((((getV ρ 0 >>= fun x10 => pure (.int 0) >>= fun y11 => idxM x10 y11) >>= fun x8 => pure (.int 1) >>= fun y9 => binM .Add false x8 y9) >>= fun x6 => ((getV ρ 0 >>= fun x14 => pure (.int 1) >>= fun y15 => idxM x14 y15) >>= fun x12 => pure [] >>= fun l13 => pure (x12 :: l13)) >>= fun l7 => pure (x6 :: l7)) >>= fun l5 => tupM l5) else (((getV ρ 0 >>= fun x19 => pure (.int 0) >>= fun y20 => idxM x19 y20) >>= fun x17 => (((getV ρ 0 >>= fun x25 => pure (.int 1) >>= fun y26 => idxM x25 y26) >>= fun x23 => pure (.int 1) >>= fun y24 => binM .Add false x23 y24) >>= fun x21 => pure [] >>= fun l22 => pure (x21 :: l22)) >>= fun l18 => pure (x17 :: l18)) >>= fun l16 => tupM l16)) ρ fun d h => .ret d h)
  (fun ρ h => .next ρ h))
def S_end_of (fl ms : List (Str × Str)) : ClS := fun o => (seqS (fun ρ => liftE (((((getV ρ 0 >>= fun x7 => pure (.int 0) >>= fun y8 => idxM x7 y8) >>= fun x5 => pure [] >>= fun l6 => pure (x5 :: l6)) >>= fun l4 => b_len l4) >>= fun x2 => ((((getV ρ 0 >>= fun x14 => pure (.int 1) >>= fun y15 => idxM x14 y15) >>= fun x12 => pure [] >>= fun l13 => pure (x12 :: l13)) >>= fun l11 => b_len l11) >>= fun x9 => pure [] >>= fun l10 => pure (x9 :: l10)) >>= fun l3 => pure (x2 :: l3)) >>= fun l1 => tupM l1) ρ fun d h => .ret d h)
  (fun ρ h => .next ρ h))
def S_Ways_init (fl ms : List (Str × Str)) : ClS := fun o => (seqS (fun ρ => liftE (getV ρ 1 >>= fun v1 => getV ρ 0 >>= fun x2 => setFldM fl x2 "held" v1) ρ fun _ h => .next ρ h)
  (seqS (fun ρ => liftE (alloc (.dct false []) >>= fun v3 => getV ρ 0 >>= fun x4 => setFldM fl x4 "known" v3) ρ fun _ h => .next ρ h)
  (fun ρ h => .next ρ h)))
def S_Ways_count (fl ms : List (Str × Str)) : ClS := fun o => (seqS (fun ρ => liftE (getV ρ 1 >>= fun x2 => (((getV ρ 0 >>= fun x8 => fldM fl x8 "held") >>= fun x6 => pure [] >>= fun l7 => pure (x6 :: l7)) >>= fun l5 => o ("end_of", none) l5) >>= fun y3 => cmpM .Eq x2 y3) ρ fun c1 h => if c1 then (seqS (fun ρ => liftE (pure (.int 1)) ρ fun d h => .ret d h)
    (fun ρ h => .next ρ h)) ρ h else (fun ρ h => .next ρ h) ρ h)
  (seqS (fun ρ => liftE (getV ρ 1 >>= fun x10 => (getV ρ 0 >>= fun x13 => fldM fl x13 "known") >>= fun y11 => cmpM .NotIn x10 y11) ρ fun c9 h => if c9 then (seqS (fun ρ => liftE (((((pure (.int 0) >>= fun x28 => (pure (.int 1) >>= fun x30 => pure [] >>= fun l31 => pure (x30 :: l31)) >>= fun l29 => pure (x28 :: l29)) >>= fun l27 => tupM l27) >>= fun x26 => itM x26) >>= fun it15 => M.nox (compIt (turnC (stN 3) (fun ρ => ((((getV ρ 0 >>= fun x21 => fldM fl x21 "held") >>= fun x19 => (getV ρ 1 >>= fun x22 => (getV ρ 3 >>= fun x24 => pure [] >>= fun l25 => pure (x24 :: l25)) >>= fun l23 => pure (x22 :: l23)) >>= fun l20 => pure (x19 :: l20)) >>= fun l18 => o ("may_write", none) l18) >>= fun x17 => asBool x17)) (fun ρ => getV ρ 3) (wipeE ρ [3])) it15) >>= fun l16 => newL false l16) >>= fun d14 => stN 2 d14 ρ) ρ fun ρ h => .next ρ h)
    (seqS (fun ρ => liftE (((((getV ρ 2 >>= fun x40 => itM x40) >>= fun it38 => M.nox (compIt (turnC (stN 3) (fun ρ => pure true) (fun ρ => (getV ρ 0 >>= fun x41 => methM ms o "count" x41 (((getV ρ 1 >>= fun x45 => (getV ρ 3 >>= fun x47 => pure [] >>= fun l48 => pure (x47 :: l48)) >>= fun l46 => pure (x45 :: l46)) >>= fun l44 => o ("after", none) l44) >>= fun x42 => pure [] >>= fun l43 => pure (x42 :: l43)))) (wipeE ρ [3])) it38) >>= fun l39 => newL false l39) >>= fun x36 => pure [] >>= fun l37 => pure (x36 :: l37)) >>= fun l35 => b_sum l35) >>= fun v32 => (getV ρ 0 >>= fun x49 => fldM fl x49 "known") >>= fun x33 => getV ρ 1 >>= fun y34 => storeM x33 y34 v32) ρ fun _ h => .next ρ h)
    (fun ρ h => .next ρ h))) ρ h else (fun ρ h => .next ρ h) ρ h)
  (seqS (fun ρ => liftE ((getV ρ 0 >>= fun x52 => fldM fl x52 "known") >>= fun x50 => getV ρ 1 >>= fun y51 => idxM x50 y51) ρ fun d h => .ret d h)
  (fun ρ h => .next ρ h))))
def L1_Ways_every (fl ms : List (Str × Str)) (o : Ora) : Env → AH → RS := (seqS (fun ρ => liftE (((((getV ρ 0 >>= fun x28 => fldM fl x28 "held") >>= fun x26 => (getV ρ 1 >>= fun x29 => (getV ρ 3 >>= fun x31 => pure [] >>= fun l32 => pure (x31 :: l32)) >>= fun l30 => pure (x29 :: l30)) >>= fun l27 => pure (x26 :: l27)) >>= fun l25 => o ("may_write", none) l25) >>= fun x24 => asBool x24) >>= fun c23 => if c23 then ((getV ρ 0 >>= fun x37 => methM ms o "count" x37 (((getV ρ 1 >>= fun x41 => (getV ρ 3 >>= fun x43 => pure [] >>= fun l44 => pure (x43 :: l44)) >>= fun l42 => pure (x41 :: l42)) >>= fun l40 => o ("after", none) l40) >>= fun x38 => pure [] >>= fun l39 => pure (x38 :: l39))) >>= fun x34 => pure (.int 0) >>= fun y35 => cmpM .Gt x34 y35) else pure false) ρ fun c22 h => if c22 then (seqS (fun ρ => liftE ((getV ρ 2 >>= fun x46 => (((getV ρ 0 >>= fun x51 => methM ms o "every" x51 (((getV ρ 1 >>= fun x55 => (getV ρ 3 >>= fun x57 => pure [] >>= fun l58 => pure (x57 :: l58)) >>= fun l56 => pure (x55 :: l56)) >>= fun l54 => o ("after", none) l54) >>= fun x52 => pure [] >>= fun l53 => pure (x52 :: l53))) >>= fun x50 => itM x50) >>= fun it48 => M.nox (compIt (turnC (stN 4) (fun ρ => pure true) (fun ρ => (((getV ρ 3 >>= fun x62 => pure [] >>= fun l63 => pure (x62 :: l63)) >>= fun l61 => tupM l61) >>= fun x59 => getV ρ 4 >>= fun y60 => binM .Add false x59 y60)) (wipeE ρ [4])) it48) >>= fun l49 => newL false l49) >>= fun y47 => binM .Add false x46 y47) >>= fun d45 => stN 2 d45 ρ) ρ fun ρ h => .next ρ h)
    (fun ρ h => .next ρ h)) ρ h else (fun ρ h => .next ρ h) ρ h)
  (fun ρ h => .next ρ h))
def S_Ways_every (fl ms : List (Str × Str)) : ClS := fun o => (seqS (fun ρ => liftE (getV ρ 1 >>= fun x2 => (((getV ρ 0 >>= fun x8 => fldM fl x8 "held") >>= fun x6 => pure [] >>= fun l7 => pure (x6 :: l7)) >>= fun l5 => o ("end_of", none) l5) >>= fun y3 => cmpM .Eq x2 y3) ρ fun c1 h => if c1 then (seqS (fun ρ => liftE (((pure [] >>= fun l12 => tupM l12) >>= fun x10 => pure [] >>= fun l11 => pure (x10 :: l11)) >>= fun l9 => dispM false l9) ρ fun d h => .ret d h)
    (fun ρ h => .next ρ h)) ρ h else (fun ρ h => .next ρ h) ρ h)
  (seqS (fun ρ => liftE ((pure [] >>= fun l14 => dispM false l14) >>= fun d13 => stN 2 d13 ρ) ρ fun ρ h => .next ρ h)
  (seqS (fun ρ => liftE (((pure (.int 0) >>= fun x18 => (pure (.int 1) >>= fun x20 => pure [] >>= fun l21 => pure (x20 :: l21)) >>= fun l19 => pure (x18 :: l19)) >>= fun l17 => tupM l17) >>= fun x16 => itM x16) ρ fun it15 h => loopOf (turnS (stN 3) (L1_Ways_every fl ms o)) it15 ρ h)
  (seqS (fun ρ => liftE (getV ρ 2) ρ fun d h => .ret d h)
  (fun ρ h => .next ρ h)))))
def L1_Ways_at (fl ms : List (Str × Str)) (o : Ora) : Env → AH → RS := (seqS (fun ρ => liftE ((((((getV ρ 0 >>= fun x26 => fldM fl x26 "held") >>= fun x24 => (getV ρ 2 >>= fun x27 => (pure (.int 0) >>= fun x29 => pure [] >>= fun l30 => pure (x29 :: l30)) >>= fun l28 => pure (x27 :: l28)) >>= fun l25 => pure (x24 :: l25)) >>= fun l23 => o ("may_write", none) l23) >>= fun x22 => asBool x22) >>= fun c21 => if c21 then (getV ρ 0 >>= fun x31 => methM ms o "count" x31 (((getV ρ 2 >>= fun x35 => (pure (.int 0) >>= fun x37 => pure [] >>= fun l38 => pure (x37 :: l38)) >>= fun l36 => pure (x35 :: l36)) >>= fun l34 => o ("after", none) l34) >>= fun x32 => pure [] >>= fun l33 => pure (x32 :: l33))) else pure (.int 0)) >>= fun d20 => stN 4 d20 ρ) ρ fun ρ h => .next ρ h)
  (seqS (fun ρ => liftE (((getV ρ 1 >>= fun x41 => getV ρ 4 >>= fun y42 => cmpM .Lt x41 y42) >>= fun c40 => if c40 then pure (.int 0) else pure (.int 1)) >>= fun d39 => stN 5 d39 ρ) ρ fun ρ h => .next ρ h)
  (seqS (fun ρ => liftE (((getV ρ 5 >>= fun x46 => pure (.int 1) >>= fun y47 => cmpM .Eq x46 y47) >>= fun c45 => if c45 then (getV ρ 1 >>= fun x49 => getV ρ 4 >>= fun y50 => binM .Sub false x49 y50) else getV ρ 1) >>= fun d44 => stN 1 d44 ρ) ρ fun ρ h => .next ρ h)
  (seqS (fun ρ => liftE (((((getV ρ 2 >>= fun x56 => (getV ρ 5 >>= fun x58 => pure [] >>= fun l59 => pure (x58 :: l59)) >>= fun l57 => pure (x56 :: l57)) >>= fun l55 => o ("after", none) l55) >>= fun x53 => ((getV ρ 3 >>= fun x62 => ((getV ρ 5 >>= fun x65 => pure [] >>= fun l66 => pure (x65 :: l66)) >>= fun l64 => tupM l64) >>= fun y63 => binM .Add false x62 y63) >>= fun x60 => pure [] >>= fun l61 => pure (x60 :: l61)) >>= fun l54 => pure (x53 :: l54)) >>= fun l52 => tupM l52) >>= fun d51 => stT [2, 3] d51 ρ) ρ fun ρ h => .next ρ h)
  (fun ρ h => .next ρ h)))))
def S_Ways_at (fl ms : List (Str × Str)) : ClS := fun o => (seqS (fun ρ => liftE (((((pure (.int 0) >>= fun x6 => (pure (.int 0) >>= fun x8 => pure [] >>= fun l9 => pure (x8 :: l9)) >>= fun l7 => pure (x6 :: l7)) >>= fun l5 => tupM l5) >>= fun x3 => ((pure [] >>= fun l12 => tupM l12) >>= fun x10 => pure [] >>= fun l11 => pure (x10 :: l11)) >>= fun l4 => pure (x3 :: l4)) >>= fun l2 => tupM l2) >>= fun d1 => stT [2, 3] d1 ρ) ρ fun ρ h => .next ρ h)
  (seqS (fun ρ => whileM (fun ρ => (getV ρ 2 >>= fun x13 => (((getV ρ 0 >>= fun x19 => fldM fl x19 "held") >>= fun x17 => pure [] >>= fun l18 => pure (x17 :: l18)) >>= fun l16 => o ("end_of", none) l16) >>= fun y14 => cmpM .NotEq x13 y14)) (L1_Ways_at fl ms o) 1000 ρ)
  (seqS (fun ρ => liftE (getV ρ 3) ρ fun d h => .ret d h)
  (fun ρ h => .next ρ h))))
def L1_Ways_number (fl ms : List (Str × Str)) (o : Ora) : Env → AH → RS := (seqS (fun ρ => liftE ((getV ρ 2 >>= fun x16 => pure (.int 1) >>= fun y17 => cmpM .Eq x16 y17) >>= fun c15 => if c15 then ((((getV ρ 0 >>= fun x24 => fldM fl x24 "held") >>= fun x22 => (getV ρ 3 >>= fun x25 => (pure (.int 0) >>= fun x27 => pure [] >>= fun l28 => pure (x27 :: l28)) >>= fun l26 => pure (x25 :: l26)) >>= fun l23 => pure (x22 :: l23)) >>= fun l21 => o ("may_write", none) l21) >>= fun x20 => asBool x20) else pure false) ρ fun c14 h => if c14 then (seqS (fun ρ => liftE ((getV ρ 4 >>= fun x30 => (getV ρ 0 >>= fun x32 => methM ms o "count" x32 (((getV ρ 3 >>= fun x36 => (pure (.int 0) >>= fun x38 => pure [] >>= fun l39 => pure (x38 :: l39)) >>= fun l37 => pure (x36 :: l37)) >>= fun l35 => o ("after", none) l35) >>= fun x33 => pure [] >>= fun l34 => pure (x33 :: l34))) >>= fun y31 => binM .Add false x30 y31) >>= fun d29 => stN 4 d29 ρ) ρ fun ρ h => .next ρ h)
    (fun ρ h => .next ρ h)) ρ h else (fun ρ h => .next ρ h) ρ h)
  (seqS (fun ρ => liftE (((getV ρ 3 >>= fun x42 => (getV ρ 2 >>= fun x44 => pure [] >>= fun l45 => pure (x44 :: l45)) >>= fun l43 => pure (x42 :: l43)) >>= fun l41 => o ("after", none) l41) >>= fun d40 => stN 3 d40 ρ) ρ fun ρ h => .next ρ h)
  (fun ρ h => .next ρ h)))
def S_Ways_number (fl ms : List (Str × Str)) : ClS := fun o => (seqS (fun ρ => liftE (((((pure (.int 0) >>= fun x6 => (pure (.int 0) >>= fun x8 => pure [] >>= fun l9 => pure (x8 :: l9)) >>= fun l7 => pure (x6 :: l7)) >>= fun l5 => tupM l5) >>= fun x3 => (pure (.int 0) >>= fun x10 => pure [] >>= fun l11 => pure (x10 :: l11)) >>= fun l4 => pure (x3 :: l4)) >>= fun l2 => tupM l2) >>= fun d1 => stT [3, 4] d1 ρ) ρ fun ρ h => .next ρ h)
  (seqS (fun ρ => liftE (getV ρ 1 >>= fun x13 => itM x13) ρ fun it12 h => loopOf (turnS (stN 2) (L1_Ways_number fl ms o)) it12 ρ h)
  (seqS (fun ρ => liftE (getV ρ 4) ρ fun d h => .ret d h)
  (fun ρ h => .next ρ h))))
def S_count_of (fl ms : List (Str × Str)) : ClS := fun o => (seqS (fun ρ => liftE (((getV ρ 0 >>= fun x3 => pure [] >>= fun l4 => pure (x3 :: l4)) >>= fun l2 => makeM o "Ways" l2) >>= fun x1 => methM ms o "count" x1 (((pure (.int 0) >>= fun x8 => (pure (.int 0) >>= fun x10 => pure [] >>= fun l11 => pure (x10 :: l11)) >>= fun l9 => pure (x8 :: l9)) >>= fun l7 => tupM l7) >>= fun x5 => pure [] >>= fun l6 => pure (x5 :: l6))) ρ fun d h => .ret d h)
  (fun ρ h => .next ρ h))
def S_how_many (fl ms : List (Str × Str)) : ClS := fun o => (seqS (fun ρ => liftE ((getV ρ 0 >>= fun x2 => pure [] >>= fun l3 => pure (x2 :: l3)) >>= fun l1 => o ("need_mail", none) l1) ρ fun _ h => .next ρ h)
  (seqS (fun ρ => liftE ((getV ρ 0 >>= fun x5 => pure [] >>= fun l6 => pure (x5 :: l6)) >>= fun l4 => o ("count_of", none) l4) ρ fun d h => .ret d h)
  (fun ρ h => .next ρ h)))
def S_need_there (fl ms : List (Str × Str)) : ClS := fun o => (seqS (fun ρ => liftE ((((getV ρ 0 >>= fun x5 => pure [] >>= fun l6 => pure (x5 :: l6)) >>= fun l4 => o ("is_there", none) l4) >>= fun x3 => asBool x3) >>= fun b2 => pure (!b2)) ρ fun c1 h => if c1 then (seqS (fun ρ => fun h => .exc "Nothing" ρ h)
    (fun ρ h => .next ρ h)) ρ h else (fun ρ h => .next ρ h) ρ h)
  (fun ρ h => .next ρ h))
def L1_lowest (fl ms : List (Str × Str)) (o : Ora) : Env → AH → RS := (seqS (fun ρ => liftE (((getV ρ 3 >>= fun x12 => ((getV ρ 2 >>= fun x16 => getV ρ 3 >>= fun y17 => binM .Mod false x16 y17) >>= fun x14 => pure [] >>= fun l15 => pure (x14 :: l15)) >>= fun l13 => pure (x12 :: l13)) >>= fun l11 => tupM l11) >>= fun d10 => stT [2, 3] d10 ρ) ρ fun ρ h => .next ρ h)
  (fun ρ h => .next ρ h))
def S_lowest (fl ms : List (Str × Str)) : ClS := fun o => (seqS (fun ρ => liftE (((getV ρ 0 >>= fun x3 => (getV ρ 1 >>= fun x5 => pure [] >>= fun l6 => pure (x5 :: l6)) >>= fun l4 => pure (x3 :: l4)) >>= fun l2 => tupM l2) >>= fun d1 => stT [2, 3] d1 ρ) ρ fun ρ h => .next ρ h)
  (seqS (fun ρ => whileM (fun ρ => (getV ρ 3 >>= fun x7 => pure (.int 0) >>= fun y8 => cmpM .NotEq x7 y8)) (L1_lowest fl ms o) 1000 ρ)
  (seqS (fun ρ => liftE (((getV ρ 0 >>= fun x21 => getV ρ 2 >>= fun y22 => binM .FloorDiv false x21 y22) >>= fun x19 => ((getV ρ 1 >>= fun x25 => getV ρ 2 >>= fun y26 => binM .FloorDiv false x25 y26) >>= fun x23 => pure [] >>= fun l24 => pure (x23 :: l24)) >>= fun l20 => pure (x19 :: l20)) >>= fun l18 => tupM l18) ρ fun d h => .ret d h)
  (fun ρ h => .next ρ h))))
def L1_all_standings (fl ms : List (Str × Str)) (o : Ora) : Env → AH → RS := (seqS (fun ρ => liftE ((getV ρ 1 >>= fun x14 => ((((((getV ρ 0 >>= fun x25 => pure (.int 1) >>= fun y26 => idxM x25 y26) >>= fun x23 => pure [] >>= fun l24 => pure (x23 :: l24)) >>= fun l22 => b_len l22) >>= fun x20 => pure (.int 1) >>= fun y21 => binM .Add false x20 y21) >>= fun x18 => rng1M x18) >>= fun it16 => M.nox (compIt (turnC (stN 3) (fun ρ => pure true) (fun ρ => ((getV ρ 2 >>= fun x28 => (getV ρ 3 >>= fun x30 => pure [] >>= fun l31 => pure (x30 :: l31)) >>= fun l29 => pure (x28 :: l29)) >>= fun l27 => tupM l27)) (wipeE ρ [3])) it16) >>= fun l17 => newL false l17) >>= fun y15 => binM .Add false x14 y15) >>= fun d13 => stN 1 d13 ρ) ρ fun ρ h => .next ρ h)
  (fun ρ h => .next ρ h))
def S_all_standings (fl ms : List (Str × Str)) : ClS := fun o => (seqS (fun ρ => liftE ((pure [] >>= fun l2 => dispM false l2) >>= fun d1 => stN 1 d1 ρ) ρ fun ρ h => .next ρ h)
  (seqS (fun ρ => liftE (((((getV ρ 0 >>= fun x11 => pure (.int 0) >>= fun y12 => idxM x11 y12) >>= fun x9 => pure [] >>= fun l10 => pure (x9 :: l10)) >>= fun l8 => b_len l8) >>= fun x6 => pure (.int 1) >>= fun y7 => binM .Add false x6 y7) >>= fun x4 => rng1M x4) ρ fun it3 h => loopOf (turnS (stN 2) (L1_all_standings fl ms o)) it3 ρ h)
  (seqS (fun ρ => liftE (getV ρ 1) ρ fun d h => .ret d h)
  (fun ρ h => .next ρ h))))
def S_standings (fl ms : List (Str × Str)) : ClS := fun o => (seqS (fun ρ => liftE ((getV ρ 0 >>= fun x2 => pure [] >>= fun l3 => pure (x2 :: l3)) >>= fun l1 => o ("need_mail", none) l1) ρ fun _ h => .next ρ h)
  (seqS (fun ρ => liftE ((getV ρ 0 >>= fun x5 => pure [] >>= fun l6 => pure (x5 :: l6)) >>= fun l4 => o ("need_there", none) l4) ρ fun _ h => .next ρ h)
  (seqS (fun ρ => liftE (((getV ρ 0 >>= fun x9 => pure [] >>= fun l10 => pure (x9 :: l10)) >>= fun l8 => o ("passing", none) l8) >>= fun d7 => stN 1 d7 ρ) ρ fun ρ h => .next ρ h)
  (seqS (fun ρ => liftE ((((getV ρ 0 >>= fun x20 => pure [] >>= fun l21 => pure (x20 :: l21)) >>= fun l19 => o ("all_standings", none) l19) >>= fun x18 => itM x18) >>= fun it11 => M.nox (compIt (turnC (stN 2) (fun ρ => ((getV ρ 1 >>= fun x16 => getV ρ 2 >>= fun y17 => idxM x16 y17) >>= fun x13 => pure (.int 0) >>= fun y14 => cmpM .Gt x13 y14)) (fun ρ => getV ρ 2) (wipeE ρ [2])) it11) >>= fun l12 => newL false l12) ρ fun d h => .ret d h)
  (fun ρ h => .next ρ h)))))
def S_need_asked (fl ms : List (Str × Str)) : ClS := fun o => (seqS (fun ρ => liftE ((getV ρ 0 >>= fun x2 => pure [] >>= fun l3 => pure (x2 :: l3)) >>= fun l1 => o ("need_mail", none) l1) ρ fun _ h => .next ρ h)
  (seqS (fun ρ => liftE ((getV ρ 0 >>= fun x5 => (getV ρ 1 >>= fun x7 => pure [] >>= fun l8 => pure (x7 :: l8)) >>= fun l6 => pure (x5 :: l6)) >>= fun l4 => o ("need_letter", none) l4) ρ fun _ h => .next ρ h)
  (seqS (fun ρ => liftE ((getV ρ 0 >>= fun x10 => (getV ρ 2 >>= fun x12 => pure [] >>= fun l13 => pure (x12 :: l13)) >>= fun l11 => pure (x10 :: l11)) >>= fun l9 => o ("need_letter", none) l9) ρ fun _ h => .next ρ h)
  (seqS (fun ρ => liftE ((getV ρ 0 >>= fun x15 => pure [] >>= fun l16 => pure (x15 :: l16)) >>= fun l14 => o ("need_there", none) l14) ρ fun _ h => .next ρ h)
  (fun ρ h => .next ρ h)))))
def L1_count_ahead (fl ms : List (Str × Str)) (o : Ora) : Env → AH → RS := (seqS (fun ρ => liftE (((getV ρ 3 >>= fun x44 => (getV ρ 1 >>= fun x46 => pure (.int 0) >>= fun y47 => idxM x46 y47) >>= fun y45 => idxM x44 y45) >>= fun x41 => (getV ρ 1 >>= fun x48 => pure (.int 1) >>= fun y49 => idxM x48 y49) >>= fun y42 => cmpM .Eq x41 y42) >>= fun c40 => if c40 then (((getV ρ 3 >>= fun x54 => (getV ρ 2 >>= fun x56 => pure (.int 0) >>= fun y57 => idxM x56 y57) >>= fun y55 => idxM x54 y55) >>= fun x51 => (getV ρ 2 >>= fun x58 => pure (.int 1) >>= fun y59 => idxM x58 y59) >>= fun y52 => cmpM .LtE x51 y52) >>= fun c50 => if c50 then (((getV ρ 0 >>= fun x63 => (getV ρ 3 >>= fun x65 => ((getV ρ 1 >>= fun x69 => pure (.int 0) >>= fun y70 => idxM x69 y70) >>= fun x67 => pure [] >>= fun l68 => pure (x67 :: l68)) >>= fun l66 => pure (x65 :: l66)) >>= fun l64 => pure (x63 :: l64)) >>= fun l62 => o ("may_write", none) l62) >>= fun x61 => asBool x61) else pure false) else pure false) ρ fun c39 h => if c39 then (seqS (fun ρ => liftE ((getV ρ 6 >>= fun x72 => ((getV ρ 5 >>= fun x76 => getV ρ 3 >>= fun y77 => idxM x76 y77) >>= fun x74 => (getV ρ 4 >>= fun x78 => methM ms o "count" x78 (((getV ρ 3 >>= fun x82 => ((getV ρ 1 >>= fun x86 => pure (.int 0) >>= fun y87 => idxM x86 y87) >>= fun x84 => pure [] >>= fun l85 => pure (x84 :: l85)) >>= fun l83 => pure (x82 :: l83)) >>= fun l81 => o ("after", none) l81) >>= fun x79 => pure [] >>= fun l80 => pure (x79 :: l80))) >>= fun y75 => binM .Mult false x74 y75) >>= fun y73 => binM .Add false x72 y73) >>= fun d71 => stN 6 d71 ρ) ρ fun ρ h => .next ρ h)
    (fun ρ h => .next ρ h)) ρ h else (fun ρ h => .next ρ h) ρ h)
  (fun ρ h => .next ρ h))
def S_count_ahead (fl ms : List (Str × Str)) : ClS := fun o => (seqS (fun ρ => liftE ((getV ρ 1 >>= fun x5 => pure (.int 0) >>= fun y6 => idxM x5 y6) >>= fun x2 => (getV ρ 2 >>= fun x7 => pure (.int 0) >>= fun y8 => idxM x7 y8) >>= fun y3 => cmpM .Eq x2 y3) ρ fun c1 h => if c1 then (seqS (fun ρ => liftE (((getV ρ 1 >>= fun x13 => pure (.int 1) >>= fun y14 => idxM x13 y14) >>= fun x10 => (getV ρ 2 >>= fun x15 => pure (.int 1) >>= fun y16 => idxM x15 y16) >>= fun y11 => cmpM .Lt x10 y11) >>= fun c9 => if c9 then ((getV ρ 0 >>= fun x18 => pure [] >>= fun l19 => pure (x18 :: l19)) >>= fun l17 => o ("count_of", none) l17) else pure (.int 0)) ρ fun d h => .ret d h)
    (fun ρ h => .next ρ h)) ρ h else (fun ρ h => .next ρ h) ρ h)
  (seqS (fun ρ => liftE (((((getV ρ 0 >>= fun x25 => pure [] >>= fun l26 => pure (x25 :: l26)) >>= fun l24 => makeM o "Ways" l24) >>= fun x22 => (((getV ρ 0 >>= fun x30 => pure [] >>= fun l31 => pure (x30 :: l31)) >>= fun l29 => o ("leading", none) l29) >>= fun x27 => (pure (.int 0) >>= fun x32 => pure [] >>= fun l33 => pure (x32 :: l33)) >>= fun l28 => pure (x27 :: l28)) >>= fun l23 => pure (x22 :: l23)) >>= fun l21 => tupM l21) >>= fun d20 => stT [4, 5, 6] d20 ρ) ρ fun ρ h => .next ρ h)
  (seqS (fun ρ => liftE (((getV ρ 0 >>= fun x37 => pure [] >>= fun l38 => pure (x37 :: l38)) >>= fun l36 => o ("all_standings", none) l36) >>= fun x35 => itM x35) ρ fun it34 h => loopOf (turnS (stN 3) (L1_count_ahead fl ms o)) it34 ρ h)
  (seqS (fun ρ => liftE (getV ρ 6) ρ fun d h => .ret d h)
  (fun ρ h => .next ρ h)))))
def S_ahead_share (fl ms : List (Str × Str)) : ClS := fun o => (seqS (fun ρ => liftE ((getV ρ 0 >>= fun x2 => (getV ρ 1 >>= fun x4 => (getV ρ 2 >>= fun x6 => pure [] >>= fun l7 => pure (x6 :: l7)) >>= fun l5 => pure (x4 :: l5)) >>= fun l3 => pure (x2 :: l3)) >>= fun l1 => o ("need_asked", none) l1) ρ fun _ h => .next ρ h)
  (seqS (fun ρ => liftE ((((getV ρ 0 >>= fun x12 => (getV ρ 1 >>= fun x14 => (getV ρ 2 >>= fun x16 => pure [] >>= fun l17 => pure (x16 :: l17)) >>= fun l15 => pure (x14 :: l15)) >>= fun l13 => pure (x12 :: l13)) >>= fun l11 => o ("count_ahead", none) l11) >>= fun x9 => (((getV ρ 0 >>= fun x21 => pure [] >>= fun l22 => pure (x21 :: l22)) >>= fun l20 => o ("count_of", none) l20) >>= fun x18 => pure [] >>= fun l19 => pure (x18 :: l19)) >>= fun l10 => pure (x9 :: l10)) >>= fun l8 => o ("lowest", none) l8) ρ fun d h => .ret d h)
  (fun ρ h => .next ρ h)))
def S_surely_ahead (fl ms : List (Str × Str)) : ClS := fun o => (seqS (fun ρ => liftE ((getV ρ 0 >>= fun x2 => (getV ρ 1 >>= fun x4 => (getV ρ 2 >>= fun x6 => pure [] >>= fun l7 => pure (x6 :: l7)) >>= fun l5 => pure (x4 :: l5)) >>= fun l3 => pure (x2 :: l3)) >>= fun l1 => o ("need_asked", none) l1) ρ fun _ h => .next ρ h)
  (seqS (fun ρ => liftE (((getV ρ 0 >>= fun x12 => (getV ρ 1 >>= fun x14 => (getV ρ 2 >>= fun x16 => pure [] >>= fun l17 => pure (x16 :: l17)) >>= fun l15 => pure (x14 :: l15)) >>= fun l13 => pure (x12 :: l13)) >>= fun l11 => o ("count_ahead", none) l11) >>= fun x8 => ((getV ρ 0 >>= fun x19 => pure [] >>= fun l20 => pure (x19 :: l20)) >>= fun l18 => o ("count_of", none) l18) >>= fun y9 => cmpM .Eq x8 y9 >>= fun c10 => pure (.bl c10)) ρ fun d h => .ret d h)
  (fun ρ h => .next ρ h)))
def S_Two_init (fl ms : List (Str × Str)) : ClS := fun o => (seqS (fun ρ => liftE (((getV ρ 1 >>= fun x4 => (getV ρ 2 >>= fun x6 => pure [] >>= fun l7 => pure (x6 :: l7)) >>= fun l5 => pure (x4 :: l5)) >>= fun l3 => tupM l3) >>= fun v1 => getV ρ 0 >>= fun x2 => setFldM fl x2 "mails" v1) ρ fun _ h => .next ρ h)
  (seqS (fun ρ => liftE (((((getV ρ 1 >>= fun x14 => pure [] >>= fun l15 => pure (x14 :: l15)) >>= fun l13 => makeM o "Ways" l13) >>= fun x11 => (((getV ρ 2 >>= fun x19 => pure [] >>= fun l20 => pure (x19 :: l20)) >>= fun l18 => makeM o "Ways" l18) >>= fun x16 => pure [] >>= fun l17 => pure (x16 :: l17)) >>= fun l12 => pure (x11 :: l12)) >>= fun l10 => dispM true l10) >>= fun v8 => getV ρ 0 >>= fun x9 => setFldM fl x9 "ways" v8) ρ fun _ h => .next ρ h)
  (seqS (fun ρ => liftE (alloc (.dct false []) >>= fun v21 => getV ρ 0 >>= fun x22 => setFldM fl x22 "known" v21) ρ fun _ h => .next ρ h)
  (fun ρ h => .next ρ h))))
def S_Two_alive (fl ms : List (Str × Str)) : ClS := fun o => (seqS (fun ρ => liftE ((((getV ρ 2 >>= fun x6 => (getV ρ 0 >>= fun x8 => fldM fl x8 "mails") >>= fun y7 => zipM x6 y7) >>= fun it4 => M.nox (compIt (turnC (stT [4, 5]) (fun ρ => pure true) (fun ρ => ((getV ρ 4 >>= fun x10 => asBool x10 >>= fun c11 => if c11 then (((getV ρ 5 >>= fun x15 => (getV ρ 1 >>= fun x17 => (getV ρ 3 >>= fun x19 => pure [] >>= fun l20 => pure (x19 :: l20)) >>= fun l18 => pure (x17 :: l18)) >>= fun l16 => pure (x15 :: l16)) >>= fun l14 => o ("may_write", none) l14) >>= fun x12 => asBool x12) else pure false) >>= fun b9 => pure (.bl b9))) (wipeE ρ [4, 5])) it4) >>= fun l5 => newL false l5) >>= fun x2 => pure [] >>= fun l3 => pure (x2 :: l3)) >>= fun l1 => b_tuple l1) ρ fun d h => .ret d h)
  (fun ρ h => .next ρ h))
def S_Two_parts (fl ms : List (Str × Str)) : ClS := fun o => (seqS (fun ρ => liftE (pure (.bl true) >>= fun x2 => getV ρ 2 >>= fun y3 => cmpM .NotIn x2 y3) ρ fun c1 h => if c1 then (seqS (fun ρ => liftE (pure (.bl false)) ρ fun d h => .ret d h)
    (fun ρ h => .next ρ h)) ρ h else (fun ρ h => .next ρ h) ρ h)
  (seqS (fun ρ => liftE (getV ρ 1 >>= fun x6 => ((((getV ρ 0 >>= fun x14 => fldM fl x14 "mails") >>= fun x12 => pure (.int 0) >>= fun y13 => idxM x12 y13) >>= fun x10 => pure [] >>= fun l11 => pure (x10 :: l11)) >>= fun l9 => o ("end_of", none) l9) >>= fun y7 => cmpM .Eq x6 y7) ρ fun c5 h => if c5 then (seqS (fun ρ => liftE ((getV ρ 2 >>= fun x18 => pure (.int 0) >>= fun y19 => idxM x18 y19) >>= fun x15 => (getV ρ 2 >>= fun x20 => pure (.int 1) >>= fun y21 => idxM x20 y21) >>= fun y16 => cmpM .NotEq x15 y16 >>= fun c17 => pure (.bl c17)) ρ fun d h => .ret d h)
    (fun ρ h => .next ρ h)) ρ h else (fun ρ h => .next ρ h) ρ h)
  (seqS (fun ρ => liftE ((getV ρ 2 >>= fun x26 => pure (.int 0) >>= fun y27 => idxM x26 y27) >>= fun x23 => (getV ρ 2 >>= fun x28 => pure (.int 1) >>= fun y29 => idxM x28 y29) >>= fun y24 => cmpM .NotEq x23 y24) ρ fun c22 h => if c22 then (seqS (fun ρ => liftE ((((getV ρ 0 >>= fun x36 => fldM fl x36 "ways") >>= fun x34 => (getV ρ 2 >>= fun x37 => methM ms o "index" x37 (pure (.bl true) >>= fun x38 => pure [] >>= fun l39 => pure (x38 :: l39))) >>= fun y35 => idxM x34 y35) >>= fun x33 => methM ms o "count" x33 (getV ρ 1 >>= fun x40 => pure [] >>= fun l41 => pure (x40 :: l41))) >>= fun x30 => pure (.int 0) >>= fun y31 => cmpM .Gt x30 y31 >>= fun c32 => pure (.bl c32)) ρ fun d h => .ret d h)
    (fun ρ h => .next ρ h)) ρ h else (fun ρ h => .next ρ h) ρ h)
  (seqS (fun ρ => liftE (getV ρ 1 >>= fun x43 => (getV ρ 0 >>= fun x46 => fldM fl x46 "known") >>= fun y44 => cmpM .NotIn x43 y44) ρ fun c42 h => if c42 then (seqS (fun ρ => liftE (((((pure (.int 0) >>= fun x52 => (pure (.int 1) >>= fun x54 => pure [] >>= fun l55 => pure (x54 :: l55)) >>= fun l53 => pure (x52 :: l53)) >>= fun l51 => tupM l51) >>= fun x50 => itM x50) >>= fun it48 => M.nox (compIt (turnC (stN 4) (fun ρ => pure true) (fun ρ => (getV ρ 0 >>= fun x56 => methM ms o "parts" x56 (((getV ρ 1 >>= fun x60 => (getV ρ 4 >>= fun x62 => pure [] >>= fun l63 => pure (x62 :: l63)) >>= fun l61 => pure (x60 :: l61)) >>= fun l59 => o ("after", none) l59) >>= fun x57 => ((getV ρ 0 >>= fun x66 => methM ms o "alive" x66 (getV ρ 1 >>= fun x67 => (getV ρ 2 >>= fun x69 => (getV ρ 4 >>= fun x71 => pure [] >>= fun l72 => pure (x71 :: l72)) >>= fun l70 => pure (x69 :: l70)) >>= fun l68 => pure (x67 :: l68))) >>= fun x64 => pure [] >>= fun l65 => pure (x64 :: l65)) >>= fun l58 => pure (x57 :: l58)))) (wipeE ρ [4])) it48) >>= fun l49 => newL false l49) >>= fun d47 => stN 3 d47 ρ) ρ fun ρ h => .next ρ h)
    (seqS (fun ρ => liftE ((pure (.bl true) >>= fun x76 => getV ρ 3 >>= fun y77 => cmpM .In x76 y77 >>= fun c78 => pure (.bl c78)) >>= fun v73 => (getV ρ 0 >>= fun x79 => fldM fl x79 "known") >>= fun x74 => getV ρ 1 >>= fun y75 => storeM x74 y75 v73) ρ fun _ h => .next ρ h)
    (fun ρ h => .next ρ h))) ρ h else (fun ρ h => .next ρ h) ρ h)
  (seqS (fun ρ => liftE ((getV ρ 0 >>= fun x82 => fldM fl x82 "known") >>= fun x80 => getV ρ 1 >>= fun y81 => idxM x80 y81) ρ fun d h => .ret d h)
  (fun ρ h => .next ρ h))))))
def L1_Two_least (fl ms : List (Str × Str)) (o : Ora) : Env → AH → RS := (seqS (fun ρ => liftE ((((getV ρ 0 >>= fun x40 => methM ms o "parts" x40 (((getV ρ 1 >>= fun x44 => (pure (.int 0) >>= fun x46 => pure [] >>= fun l47 => pure (x46 :: l47)) >>= fun l45 => pure (x44 :: l45)) >>= fun l43 => o ("after", none) l43) >>= fun x41 => ((getV ρ 0 >>= fun x50 => methM ms o "alive" x50 (getV ρ 1 >>= fun x51 => (getV ρ 2 >>= fun x53 => (pure (.int 0) >>= fun x55 => pure [] >>= fun l56 => pure (x55 :: l56)) >>= fun l54 => pure (x53 :: l54)) >>= fun l52 => pure (x51 :: l52))) >>= fun x48 => pure [] >>= fun l49 => pure (x48 :: l49)) >>= fun l42 => pure (x41 :: l42))) >>= fun x39 => asBool x39) >>= fun c38 => if c38 then pure (.int 0) else pure (.int 1)) >>= fun d37 => stN 4 d37 ρ) ρ fun ρ h => .next ρ h)
  (seqS (fun ρ => liftE ((getV ρ 0 >>= fun x58 => methM ms o "alive" x58 (getV ρ 1 >>= fun x59 => (getV ρ 2 >>= fun x61 => (getV ρ 4 >>= fun x63 => pure [] >>= fun l64 => pure (x63 :: l64)) >>= fun l62 => pure (x61 :: l62)) >>= fun l60 => pure (x59 :: l60))) >>= fun d57 => stN 2 d57 ρ) ρ fun ρ h => .next ρ h)
  (seqS (fun ρ => liftE (((((getV ρ 1 >>= fun x70 => (getV ρ 4 >>= fun x72 => pure [] >>= fun l73 => pure (x72 :: l73)) >>= fun l71 => pure (x70 :: l71)) >>= fun l69 => o ("after", none) l69) >>= fun x67 => ((getV ρ 3 >>= fun x76 => ((getV ρ 4 >>= fun x79 => pure [] >>= fun l80 => pure (x79 :: l80)) >>= fun l78 => tupM l78) >>= fun y77 => binM .Add false x76 y77) >>= fun x74 => pure [] >>= fun l75 => pure (x74 :: l75)) >>= fun l68 => pure (x67 :: l68)) >>= fun l66 => tupM l66) >>= fun d65 => stT [1, 3] d65 ρ) ρ fun ρ h => .next ρ h)
  (fun ρ h => .next ρ h))))
def S_Two_least (fl ms : List (Str × Str)) : ClS := fun o => (seqS (fun ρ => liftE (((((pure (.int 0) >>= fun x6 => (pure (.int 0) >>= fun x8 => pure [] >>= fun l9 => pure (x8 :: l9)) >>= fun l7 => pure (x6 :: l7)) >>= fun l5 => tupM l5) >>= fun x3 => (((pure (.bl true) >>= fun x13 => (pure (.bl true) >>= fun x15 => pure [] >>= fun l16 => pure (x15 :: l16)) >>= fun l14 => pure (x13 :: l14)) >>= fun l12 => tupM l12) >>= fun x10 => ((pure [] >>= fun l19 => tupM l19) >>= fun x17 => pure [] >>= fun l18 => pure (x17 :: l18)) >>= fun l11 => pure (x10 :: l11)) >>= fun l4 => pure (x3 :: l4)) >>= fun l2 => tupM l2) >>= fun d1 => stT [1, 2, 3] d1 ρ) ρ fun ρ h => .next ρ h)
  (seqS (fun ρ => liftE (((getV ρ 0 >>= fun x23 => methM ms o "parts" x23 (getV ρ 1 >>= fun x24 => (getV ρ 2 >>= fun x26 => pure [] >>= fun l27 => pure (x26 :: l27)) >>= fun l25 => pure (x24 :: l25))) >>= fun x22 => asBool x22) >>= fun b21 => pure (!b21)) ρ fun c20 h => if c20 then (seqS (fun ρ => liftE (pure .non) ρ fun d h => .ret d h)
    (fun ρ h => .next ρ h)) ρ h else (fun ρ h => .next ρ h) ρ h)
  (seqS (fun ρ => whileM (fun ρ => (getV ρ 1 >>= fun x28 => ((((getV ρ 0 >>= fun x36 => fldM fl x36 "mails") >>= fun x34 => pure (.int 0) >>= fun y35 => idxM x34 y35) >>= fun x32 => pure [] >>= fun l33 => pure (x32 :: l33)) >>= fun l31 => o ("end_of", none) l31) >>= fun y29 => cmpM .NotEq x28 y29)) (L1_Two_least fl ms o) 1000 ρ)
  (seqS (fun ρ => liftE (getV ρ 3) ρ fun d h => .ret d h)
  (fun ρ h => .next ρ h)))))
def S_parting (fl ms : List (Str × Str)) : ClS := fun o => (seqS (fun ρ => liftE (((((getV ρ 0 >>= fun x6 => pure [] >>= fun l7 => pure (x6 :: l7)) >>= fun l5 => o ("is_mail", none) l5) >>= fun x4 => asBool x4) >>= fun b3 => pure (!b3)) >>= fun c2 => if c2 then pure true else (((((getV ρ 1 >>= fun x12 => pure [] >>= fun l13 => pure (x12 :: l13)) >>= fun l11 => o ("is_mail", none) l11) >>= fun x10 => asBool x10) >>= fun b9 => pure (!b9)) >>= fun c8 => if c8 then pure true else (((getV ρ 0 >>= fun x19 => pure [] >>= fun l20 => pure (x19 :: l20)) >>= fun l18 => o ("end_of", none) l18) >>= fun x15 => ((getV ρ 1 >>= fun x22 => pure [] >>= fun l23 => pure (x22 :: l23)) >>= fun l21 => o ("end_of", none) l21) >>= fun y16 => cmpM .NotEq x15 y16))) ρ fun c1 h => if c1 then (seqS (fun ρ => fun h => .exc "BadMail" ρ h)
    (fun ρ h => .next ρ h)) ρ h else (fun ρ h => .next ρ h) ρ h)
  (seqS (fun ρ => liftE (((getV ρ 0 >>= fun x26 => (getV ρ 1 >>= fun x28 => pure [] >>= fun l29 => pure (x28 :: l29)) >>= fun l27 => pure (x26 :: l27)) >>= fun l25 => makeM o "Two" l25) >>= fun x24 => methM ms o "least" x24 (pure [])) ρ fun d h => .ret d h)
  (fun ρ h => .next ρ h)))
def S_is_tie (fl ms : List (Str × Str)) : ClS := fun o => (seqS (fun ρ => liftE (((getV ρ 1 >>= fun x6 => pure (.int 0) >>= fun y7 => idxM x6 y7) >>= fun x3 => (getV ρ 2 >>= fun x8 => pure (.int 0) >>= fun y9 => idxM x8 y9) >>= fun y4 => cmpM .Eq x3 y4) >>= fun c2 => if c2 then pure true else (((getV ρ 0 >>= fun x16 => (getV ρ 2 >>= fun x18 => pure (.int 0) >>= fun y19 => idxM x18 y19) >>= fun y17 => idxM x16 y17) >>= fun x14 => (getV ρ 2 >>= fun x20 => pure (.int 1) >>= fun y21 => idxM x20 y21) >>= fun y15 => idxM x14 y15) >>= fun x11 => ((getV ρ 1 >>= fun x24 => pure (.int 1) >>= fun y25 => idxM x24 y25) >>= fun x22 => pure (.int 1) >>= fun y23 => binM .Add false x22 y23) >>= fun y12 => cmpM .NotEq x11 y12)) ρ fun c1 h => if c1 then (seqS (fun ρ => liftE (pure (.bl false)) ρ fun d h => .ret d h)
    (fun ρ h => .next ρ h)) ρ h else (fun ρ h => .next ρ h) ρ h)
  (seqS (fun ρ => liftE ((((getV ρ 2 >>= fun x32 => pure (.int 1) >>= fun y33 => idxM x32 y33) >>= fun x29 => pure (.int 0) >>= fun y30 => cmpM .Eq x29 y30 >>= fun c31 => pure (.bl c31)) >>= fun x27 => asBool x27 >>= fun c28 => if c28 then pure true else ((((getV ρ 0 >>= fun x39 => ((((getV ρ 2 >>= fun x46 => pure (.int 0) >>= fun y47 => idxM x46 y47) >>= fun x44 => (((getV ρ 2 >>= fun x52 => pure (.int 1) >>= fun y53 => idxM x52 y53) >>= fun x50 => pure (.int 1) >>= fun y51 => binM .Sub false x50 y51) >>= fun x48 => pure [] >>= fun l49 => pure (x48 :: l49)) >>= fun l45 => pure (x44 :: l45)) >>= fun l43 => tupM l43) >>= fun x41 => (getV ρ 1 >>= fun x54 => pure [] >>= fun l55 => pure (x54 :: l55)) >>= fun l42 => pure (x41 :: l42)) >>= fun l40 => pure (x39 :: l40)) >>= fun l38 => o ("has_read", none) l38) >>= fun x36 => asBool x36 >>= fun b37 => pure (.bl (!b37))) >>= fun x34 => asBool x34)) >>= fun b26 => pure (.bl b26)) ρ fun d h => .ret d h)
  (fun ρ h => .next ρ h)))
def L1_ties (fl ms : List (Str × Str)) (o : Ora) : Env → AH → RS := (seqS (fun ρ => liftE ((getV ρ 1 >>= fun x12 => ((((getV ρ 0 >>= fun x26 => pure [] >>= fun l27 => pure (x26 :: l27)) >>= fun l25 => o ("all_letters", none) l25) >>= fun x24 => itM x24) >>= fun it14 => M.nox (compIt (turnC (stN 3) (fun ρ => (((getV ρ 0 >>= fun x18 => (getV ρ 2 >>= fun x20 => (getV ρ 3 >>= fun x22 => pure [] >>= fun l23 => pure (x22 :: l23)) >>= fun l21 => pure (x20 :: l21)) >>= fun l19 => pure (x18 :: l19)) >>= fun l17 => o ("is_tie", none) l17) >>= fun x16 => asBool x16)) (fun ρ => ((getV ρ 2 >>= fun x29 => (getV ρ 3 >>= fun x31 => pure [] >>= fun l32 => pure (x31 :: l32)) >>= fun l30 => pure (x29 :: l30)) >>= fun l28 => tupM l28)) (wipeE ρ [3])) it14) >>= fun l15 => newL false l15) >>= fun y13 => binM .Add false x12 y13) >>= fun d11 => stN 1 d11 ρ) ρ fun ρ h => .next ρ h)
  (fun ρ h => .next ρ h))
def S_ties (fl ms : List (Str × Str)) : ClS := fun o => (seqS (fun ρ => liftE ((getV ρ 0 >>= fun x2 => pure [] >>= fun l3 => pure (x2 :: l3)) >>= fun l1 => o ("need_mail", none) l1) ρ fun _ h => .next ρ h)
  (seqS (fun ρ => liftE ((pure [] >>= fun l5 => dispM false l5) >>= fun d4 => stN 1 d4 ρ) ρ fun ρ h => .next ρ h)
  (seqS (fun ρ => liftE (((getV ρ 0 >>= fun x9 => pure [] >>= fun l10 => pure (x9 :: l10)) >>= fun l8 => o ("all_letters", none) l8) >>= fun x7 => itM x7) ρ fun it6 h => loopOf (turnS (stN 2) (L1_ties fl ms o)) it6 ρ h)
  (seqS (fun ρ => liftE (getV ρ 1) ρ fun d h => .ret d h)
  (fun ρ h => .next ρ h)))))
def S_mail_text (fl ms : List (Str × Str)) : ClS := fun o => (seqS (fun ρ => liftE ((getV ρ 0 >>= fun x2 => pure [] >>= fun l3 => pure (x2 :: l3)) >>= fun l1 => o ("need_mail", none) l1) ρ fun _ h => .next ρ h)
  (seqS (fun ρ => liftE (((((getV ρ 0 >>= fun x11 => pure (.int 0) >>= fun y12 => idxM x11 y12) >>= fun x9 => pure [] >>= fun l10 => pure (x9 :: l10)) >>= fun l8 => o ("row_text", none) l8) >>= fun x6 => pure (.str " / ") >>= fun y7 => binM .Add false x6 y7) >>= fun x4 => (((getV ρ 0 >>= fun x16 => pure (.int 1) >>= fun y17 => idxM x16 y17) >>= fun x14 => pure [] >>= fun l15 => pure (x14 :: l15)) >>= fun l13 => o ("row_text", none) l13) >>= fun y5 => binM .Add false x4 y5) ρ fun d h => .ret d h)
  (fun ρ h => .next ρ h)))
def S__law_cell (fl ms : List (Str × Str)) : ClS := fun o => (seqS (fun ρ => liftE (getV ρ 0 >>= fun x2 => (pure [] >>= fun l5 => dispM false l5) >>= fun y3 => cmpM .Eq x2 y3) ρ fun c1 h => if c1 then (seqS (fun ρ => liftE (getV ρ 1 >>= fun x6 => pure (.int 7919) >>= fun y7 => binM .Mult false x6 y7) ρ fun d h => .ret d h)
    (fun ρ h => .next ρ h)) ρ h else (fun ρ h => .next ρ h) ρ h)
  (seqS (fun ρ => liftE ((getV ρ 0 >>= fun x10 => (getV ρ 1 >>= fun x12 => ((getV ρ 0 >>= fun x15 => pure [] >>= fun l16 => pure (x15 :: l16)) >>= fun l14 => b_len l14) >>= fun y13 => binM .Mod false x12 y13) >>= fun y11 => idxM x10 y11) >>= fun x8 => ((getV ρ 1 >>= fun x19 => ((getV ρ 0 >>= fun x22 => pure [] >>= fun l23 => pure (x22 :: l23)) >>= fun l21 => b_len l21) >>= fun y20 => binM .FloorDiv false x19 y20) >>= fun x17 => pure (.int 104729) >>= fun y18 => binM .Mult false x17 y18) >>= fun y9 => binM .Add false x8 y9) ρ fun d h => .ret d h)
  (fun ρ h => .next ρ h)))
def S__law_drawn (fl ms : List (Str × Str)) : ClS := fun o => (seqS (fun ρ => liftE ((((getV ρ 0 >>= fun x6 => pure (.int 6364136223846793005) >>= fun y7 => binM .Mult false x6 y7) >>= fun x4 => ((getV ρ 1 >>= fun x10 => pure (.int 1) >>= fun y11 => binM .Add false x10 y11) >>= fun x8 => pure (.int 1442695040888963407) >>= fun y9 => binM .Mult false x8 y9) >>= fun y5 => binM .Add false x4 y5) >>= fun x2 => pure (.int 340282366920938463463374607431768211507) >>= fun y3 => binM .Mod false x2 y3) >>= fun d1 => stN 2 d1 ρ) ρ fun ρ h => .next ρ h)
  (seqS (fun ρ => liftE (((getV ρ 2 >>= fun x15 => getV ρ 2 >>= fun y16 => binM .Mult false x15 y16) >>= fun x13 => pure (.int 340282366920938463463374607431768211297) >>= fun y14 => binM .Mod false x13 y14) >>= fun d12 => stN 2 d12 ρ) ρ fun ρ h => .next ρ h)
  (seqS (fun ρ => liftE (((((getV ρ 2 >>= fun x24 => pure (.int 18446744073709551557) >>= fun y25 => binM .Mod false x24 y25) >>= fun x22 => pure (.int 1) >>= fun y23 => binM .Add false x22 y23) >>= fun x20 => ((getV ρ 2 >>= fun x28 => pure (.int 18446744073709551557) >>= fun y29 => binM .FloorDiv false x28 y29) >>= fun x26 => pure (.int 1) >>= fun y27 => binM .Add false x26 y27) >>= fun y21 => binM .Mult false x20 y21) >>= fun x18 => getV ρ 2 >>= fun y19 => binM .Mult false x18 y19) >>= fun d17 => stN 2 d17 ρ) ρ fun ρ h => .next ρ h)
  (seqS (fun ρ => liftE (getV ρ 2 >>= fun x30 => pure (.int 340282366920938463463374607431768211507) >>= fun y31 => binM .Mod false x30 y31) ρ fun d h => .ret d h)
  (fun ρ h => .next ρ h)))))
def S__law_roll (fl ms : List (Str × Str)) : ClS := fun o => (seqS (fun ρ => liftE ((getV ρ 0 >>= fun x5 => pure (.int 0) >>= fun y6 => idxM x5 y6) >>= fun x2 => (pure (.int 10) >>= fun x7 => pure (.int 18) >>= fun y8 => binM .Pow false x7 y8) >>= fun y3 => cmpM .GtE x2 y3) ρ fun c1 h => if c1 then (seqS (fun ρ => liftE (((getV ρ 0 >>= fun x12 => pure (.int 0) >>= fun y13 => idxM x12 y13) >>= fun x10 => getV ρ 1 >>= fun y11 => binM .Mod false x10 y11) >>= fun d9 => stN 2 d9 ρ) ρ fun ρ h => .next ρ h)
    (seqS (fun ρ => liftE (((getV ρ 0 >>= fun x19 => pure (.int 0) >>= fun y20 => idxM x19 y20) >>= fun x17 => getV ρ 1 >>= fun y18 => binM .FloorDiv false x17 y18) >>= fun v14 => getV ρ 0 >>= fun x15 => pure (.int 0) >>= fun y16 => storeM x15 y16 v14) ρ fun _ h => .next ρ h)
    (seqS (fun ρ => liftE (getV ρ 2) ρ fun d h => .ret d h)
    (fun ρ h => .next ρ h)))) ρ h else (fun ρ h => .next ρ h) ρ h)
  (seqS (fun ρ => liftE (((getV ρ 0 >>= fun x26 => pure (.int 1) >>= fun y27 => idxM x26 y27) >>= fun x24 => pure (.int 1) >>= fun y25 => binM .Add false x24 y25) >>= fun v21 => getV ρ 0 >>= fun x22 => pure (.int 1) >>= fun y23 => storeM x22 y23 v21) ρ fun _ h => .next ρ h)
  (seqS (fun ρ => liftE (((((getV ρ 0 >>= fun x35 => pure (.int 0) >>= fun y36 => idxM x35 y36) >>= fun x33 => ((getV ρ 0 >>= fun x39 => pure (.int 1) >>= fun y40 => idxM x39 y40) >>= fun x37 => pure [] >>= fun l38 => pure (x37 :: l38)) >>= fun l34 => pure (x33 :: l34)) >>= fun l32 => o ("_law_drawn", none) l32) >>= fun x30 => pure (.int 8) >>= fun y31 => binM .FloorDiv false x30 y31) >>= fun x28 => getV ρ 1 >>= fun y29 => binM .Mod false x28 y29) ρ fun d h => .ret d h)
  (fun ρ h => .next ρ h))))
def S__law_rounds (fl ms : List (Str × Str)) : ClS := fun o => (seqS (fun ρ => liftE ((((pure (.int 1) >>= fun x6 => (((getV ρ 1 >>= fun x11 => (((getV ρ 0 >>= fun x16 => pure [] >>= fun l17 => pure (x16 :: l17)) >>= fun l15 => b_len l15) >>= fun x13 => pure [] >>= fun l14 => pure (x13 :: l14)) >>= fun l12 => pure (x11 :: l12)) >>= fun l10 => b_min l10) >>= fun x8 => pure [] >>= fun l9 => pure (x8 :: l9)) >>= fun l7 => pure (x6 :: l7)) >>= fun l5 => b_max l5) >>= fun x3 => rng1M x3) >>= fun it1 => M.nox (compIt (turnC (stN 2) (fun ρ => pure true) (fun ρ => ((((getV ρ 0 >>= fun x22 => (getV ρ 2 >>= fun x24 => pure [] >>= fun l25 => pure (x24 :: l25)) >>= fun l23 => pure (x22 :: l23)) >>= fun l21 => o ("_law_cell", none) l21) >>= fun x19 => (pure (.int 0) >>= fun x26 => pure [] >>= fun l27 => pure (x26 :: l27)) >>= fun l20 => pure (x19 :: l20)) >>= fun l18 => dispM true l18)) (wipeE ρ [2])) it1) >>= fun l2 => newL false l2) ρ fun d h => .ret d h)
  (fun ρ h => .next ρ h))
def L1__law_written (fl ms : List (Str × Str)) (o : Ora) : Env → AH → RS := (seqS (fun ρ => liftE (((getV ρ 0 >>= fun x60 => (pure (.int 2) >>= fun x62 => pure [] >>= fun l63 => pure (x62 :: l63)) >>= fun l61 => pure (x60 :: l61)) >>= fun l59 => o ("_law_roll", none) l59) >>= fun d58 => stN 6 d58 ρ) ρ fun ρ h => .next ρ h)
  (seqS (fun ρ => liftE ((((((getV ρ 4 >>= fun x72 => getV ρ 6 >>= fun y73 => idxM x72 y73) >>= fun x70 => pure [] >>= fun l71 => pure (x70 :: l71)) >>= fun l69 => b_len l69) >>= fun x66 => (getV ρ 3 >>= fun x74 => getV ρ 6 >>= fun y75 => idxM x74 y75) >>= fun y67 => cmpM .Lt x66 y67) >>= fun c65 => if c65 then getV ρ 6 else (pure (.int 1) >>= fun x76 => getV ρ 6 >>= fun y77 => binM .Sub false x76 y77)) >>= fun d64 => stN 6 d64 ρ) ρ fun ρ h => .next ρ h)
  (seqS (fun ρ => liftE ((((getV ρ 4 >>= fun x83 => getV ρ 6 >>= fun y84 => idxM x83 y84) >>= fun x80 => (pure [] >>= fun l85 => dispM false l85) >>= fun y81 => cmpM .NotEq x80 y81) >>= fun c79 => if c79 then ((getV ρ 4 >>= fun x88 => getV ρ 6 >>= fun y89 => idxM x88 y89) >>= fun x86 => (pure (.int 1) >>= fun x90 => negM x90) >>= fun y87 => idxM x86 y87) else pure (.int 0)) >>= fun d78 => stN 7 d78 ρ) ρ fun ρ h => .next ρ h)
  (seqS (fun ρ => liftE ((getV ρ 4 >>= fun x92 => getV ρ 6 >>= fun y93 => idxM x92 y93) >>= fun x91 => methM ms o "append" x91 ((getV ρ 7 >>= fun x96 => ((getV ρ 0 >>= fun x99 => ((((((getV ρ 4 >>= fun x110 => (pure (.int 1) >>= fun x112 => getV ρ 6 >>= fun y113 => binM .Sub false x112 y113) >>= fun y111 => idxM x110 y111) >>= fun x108 => pure [] >>= fun l109 => pure (x108 :: l109)) >>= fun l107 => b_len l107) >>= fun x105 => getV ρ 7 >>= fun y106 => binM .Sub false x105 y106) >>= fun x103 => pure (.int 1) >>= fun y104 => binM .Add false x103 y104) >>= fun x101 => pure [] >>= fun l102 => pure (x101 :: l102)) >>= fun l100 => pure (x99 :: l100)) >>= fun l98 => o ("_law_roll", none) l98) >>= fun y97 => binM .Add false x96 y97) >>= fun x94 => pure [] >>= fun l95 => pure (x94 :: l95))) ρ fun _ h => .next ρ h)
  (seqS (fun ρ => liftE (getV ρ 5 >>= fun x114 => methM ms o "append" x114 (getV ρ 6 >>= fun x115 => pure [] >>= fun l116 => pure (x115 :: l116))) ρ fun _ h => .next ρ h)
  (fun ρ h => .next ρ h))))))
def S__law_written (fl ms : List (Str × Str)) : ClS := fun o => (seqS (fun ρ => liftE (((((((getV ρ 0 >>= fun x9 => ((getV ρ 1 >>= fun x13 => pure (.int 1) >>= fun y14 => binM .Add false x13 y14) >>= fun x11 => pure [] >>= fun l12 => pure (x11 :: l12)) >>= fun l10 => pure (x9 :: l10)) >>= fun l8 => o ("_law_roll", none) l8) >>= fun x6 => (((getV ρ 0 >>= fun x18 => ((getV ρ 2 >>= fun x22 => pure (.int 1) >>= fun y23 => binM .Add false x22 y23) >>= fun x20 => pure [] >>= fun l21 => pure (x20 :: l21)) >>= fun l19 => pure (x18 :: l19)) >>= fun l17 => o ("_law_roll", none) l17) >>= fun x15 => pure [] >>= fun l16 => pure (x15 :: l16)) >>= fun l7 => pure (x6 :: l7)) >>= fun l5 => tupM l5) >>= fun x3 => ((((pure [] >>= fun l29 => dispM true l29) >>= fun x27 => ((pure [] >>= fun l32 => dispM true l32) >>= fun x30 => pure [] >>= fun l31 => pure (x30 :: l31)) >>= fun l28 => pure (x27 :: l28)) >>= fun l26 => dispM false l26) >>= fun x24 => ((pure [] >>= fun l35 => dispM true l35) >>= fun x33 => pure [] >>= fun l34 => pure (x33 :: l34)) >>= fun l25 => pure (x24 :: l25)) >>= fun l4 => pure (x3 :: l4)) >>= fun l2 => tupM l2) >>= fun d1 => stT [3, 4, 5] d1 ρ) ρ fun ρ h => .next ρ h)
  (seqS (fun ρ => whileM (fun ρ => (((((getV ρ 4 >>= fun x43 => pure (.int 0) >>= fun y44 => idxM x43 y44) >>= fun x41 => pure [] >>= fun l42 => pure (x41 :: l42)) >>= fun l40 => b_len l40) >>= fun x37 => (getV ρ 3 >>= fun x45 => pure (.int 0) >>= fun y46 => idxM x45 y46) >>= fun y38 => cmpM .Lt x37 y38) >>= fun c36 => if c36 then pure true else ((((getV ρ 4 >>= fun x54 => pure (.int 1) >>= fun y55 => idxM x54 y55) >>= fun x52 => pure [] >>= fun l53 => pure (x52 :: l53)) >>= fun l51 => b_len l51) >>= fun x48 => (getV ρ 3 >>= fun x56 => pure (.int 1) >>= fun y57 => idxM x56 y57) >>= fun y49 => cmpM .Lt x48 y49))) (L1__law_written fl ms o) 1000 ρ)
  (seqS (fun ρ => liftE (((((((getV ρ 4 >>= fun x126 => pure (.int 0) >>= fun y127 => idxM x126 y127) >>= fun x124 => pure [] >>= fun l125 => pure (x124 :: l125)) >>= fun l123 => b_tuple l123) >>= fun x121 => ((((getV ρ 4 >>= fun x133 => pure (.int 1) >>= fun y134 => idxM x133 y134) >>= fun x131 => pure [] >>= fun l132 => pure (x131 :: l132)) >>= fun l130 => b_tuple l130) >>= fun x128 => pure [] >>= fun l129 => pure (x128 :: l129)) >>= fun l122 => pure (x121 :: l122)) >>= fun l120 => tupM l120) >>= fun x118 => (((getV ρ 5 >>= fun x138 => pure [] >>= fun l139 => pure (x138 :: l139)) >>= fun l137 => b_tuple l137) >>= fun x135 => pure [] >>= fun l136 => pure (x135 :: l136)) >>= fun l119 => pure (x118 :: l119)) >>= fun l117 => tupM l117) ρ fun d h => .ret d h)
  (fun ρ h => .next ρ h))))
def L1__law_any_mail (fl ms : List (Str × Str)) (o : Ora) : Env → AH → RS := (seqS (fun ρ => liftE (getV ρ 3 >>= fun x23 => methM ms o "append" x23 ((((((((getV ρ 5 >>= fun x35 => getV ρ 4 >>= fun y36 => idxM x35 y36) >>= fun x34 => itM x34) >>= fun it32 => M.nox (compIt (turnC (stN 7) (fun ρ => pure true) (fun ρ => ((getV ρ 0 >>= fun x38 => (((((getV ρ 5 >>= fun x47 => (pure (.int 1) >>= fun x49 => getV ρ 4 >>= fun y50 => binM .Sub false x49 y50) >>= fun y48 => idxM x47 y48) >>= fun x45 => pure [] >>= fun l46 => pure (x45 :: l46)) >>= fun l44 => b_len l44) >>= fun x42 => pure (.int 1) >>= fun y43 => binM .Add false x42 y43) >>= fun x40 => pure [] >>= fun l41 => pure (x40 :: l41)) >>= fun l39 => pure (x38 :: l39)) >>= fun l37 => o ("_law_roll", none) l37)) (wipeE ρ [7])) it32) >>= fun l33 => newL false l33) >>= fun x30 => pure [] >>= fun l31 => pure (x30 :: l31)) >>= fun l29 => b_sorted false l29) >>= fun x27 => pure [] >>= fun l28 => pure (x27 :: l28)) >>= fun l26 => b_tuple l26) >>= fun x24 => pure [] >>= fun l25 => pure (x24 :: l25))) ρ fun _ h => .next ρ h)
  (fun ρ h => .next ρ h))
def S__law_any_mail (fl ms : List (Str × Str)) : ClS := fun o => (seqS (fun ρ => liftE (((getV ρ 0 >>= fun x3 => (getV ρ 1 >>= fun x5 => (getV ρ 2 >>= fun x7 => pure [] >>= fun l8 => pure (x7 :: l8)) >>= fun l6 => pure (x5 :: l6)) >>= fun l4 => pure (x3 :: l4)) >>= fun l2 => o ("_law_written", none) l2) >>= fun d1 => stT [5, 6] d1 ρ) ρ fun ρ h => .next ρ h)
  (seqS (fun ρ => liftE (((getV ρ 0 >>= fun x14 => (pure (.int 3) >>= fun x16 => pure [] >>= fun l17 => pure (x16 :: l17)) >>= fun l15 => pure (x14 :: l15)) >>= fun l13 => o ("_law_roll", none) l13) >>= fun x10 => pure (.int 0) >>= fun y11 => cmpM .Gt x10 y11) ρ fun c9 h => if c9 then (seqS (fun ρ => liftE (getV ρ 5) ρ fun d h => .ret d h)
    (fun ρ h => .next ρ h)) ρ h else (fun ρ h => .next ρ h) ρ h)
  (seqS (fun ρ => liftE ((pure [] >>= fun l19 => dispM true l19) >>= fun d18 => stN 3 d18 ρ) ρ fun ρ h => .next ρ h)
  (seqS (fun ρ => liftE (pure (.int 2) >>= fun x21 => rng1M x21) ρ fun it20 h => loopOf (turnS (stN 4) (L1__law_any_mail fl ms o)) it20 ρ h)
  (seqS (fun ρ => liftE (((getV ρ 3 >>= fun x54 => pure (.int 0) >>= fun y55 => idxM x54 y55) >>= fun x52 => ((getV ρ 3 >>= fun x58 => pure (.int 1) >>= fun y59 => idxM x58 y59) >>= fun x56 => pure [] >>= fun l57 => pure (x56 :: l57)) >>= fun l53 => pure (x52 :: l53)) >>= fun l51 => tupM l51) ρ fun d h => .ret d h)
  (fun ρ h => .next ρ h))))))
def L2__law_is_own_mail (fl ms : List (Str × Str)) (o : Ora) : Env → AH → RS := (seqS (fun ρ => liftE ((((getV ρ 5 >>= fun x34 => isiM x34 .int >>= fun b35 => pure (.bl b35)) >>= fun x32 => asBool x32) >>= fun b31 => pure (!b31)) >>= fun c30 => if c30 then pure true else (((getV ρ 5 >>= fun x39 => isiM x39 .bool >>= fun b40 => pure (.bl b40)) >>= fun x37 => asBool x37) >>= fun c36 => if c36 then pure true else ((pure (.int 0) >>= fun x43 => getV ρ 5 >>= fun y44 => cmpM .LtE x43 y44 >>= fun c45 => if c45 then (getV ρ 3 >>= fun z46 => cmpM .LtE y44 z46) else pure false) >>= fun b42 => pure (!b42)))) ρ fun c29 h => if c29 then (seqS (fun ρ => liftE (pure (.bl false)) ρ fun d h => .ret d h)
    (fun ρ h => .next ρ h)) ρ h else (fun ρ h => .next ρ h) ρ h)
  (seqS (fun ρ => liftE ((getV ρ 4 >>= fun x49 => pure (.int 0) >>= fun y50 => cmpM .Gt x49 y50) >>= fun c48 => if c48 then ((getV ρ 2 >>= fun x56 => (getV ρ 4 >>= fun x58 => pure (.int 1) >>= fun y59 => binM .Sub false x58 y59) >>= fun y57 => idxM x56 y57) >>= fun x53 => getV ρ 5 >>= fun y54 => cmpM .Gt x53 y54) else pure false) ρ fun c47 h => if c47 then (seqS (fun ρ => liftE (pure (.bl false)) ρ fun d h => .ret d h)
    (fun ρ h => .next ρ h)) ρ h else (fun ρ h => .next ρ h) ρ h)
  (fun ρ h => .next ρ h)))
def L1__law_is_own_mail (fl ms : List (Str × Str)) (o : Ora) : Env → AH → RS := (seqS (fun ρ => liftE ((((getV ρ 0 >>= fun x8 => getV ρ 1 >>= fun y9 => idxM x8 y9) >>= fun x6 => ((((getV ρ 0 >>= fun x15 => (pure (.int 1) >>= fun x17 => getV ρ 1 >>= fun y18 => binM .Sub false x17 y18) >>= fun y16 => idxM x15 y16) >>= fun x13 => pure [] >>= fun l14 => pure (x13 :: l14)) >>= fun l12 => b_len l12) >>= fun x10 => pure [] >>= fun l11 => pure (x10 :: l11)) >>= fun l7 => pure (x6 :: l7)) >>= fun l5 => tupM l5) >>= fun d4 => stT [2, 3] d4 ρ) ρ fun ρ h => .next ρ h)
  (seqS (fun ρ => liftE (((getV ρ 2 >>= fun x24 => pure [] >>= fun l25 => pure (x24 :: l25)) >>= fun l23 => b_len l23) >>= fun x20 => pure (.int 7) >>= fun y21 => cmpM .Gt x20 y21) ρ fun c19 h => if c19 then (seqS (fun ρ => liftE (pure (.bl false)) ρ fun d h => .ret d h)
    (fun ρ h => .next ρ h)) ρ h else (fun ρ h => .next ρ h) ρ h)
  (seqS (fun ρ => liftE (getV ρ 2 >>= fun x27 => enumM x27) ρ fun it26 h => loopOf (turnS (stT [4, 5]) (L2__law_is_own_mail fl ms o)) it26 ρ h)
  (fun ρ h => .next ρ h))))
def S__law_is_own_mail (fl ms : List (Str × Str)) : ClS := fun o => (seqS (fun ρ => liftE (pure (.int 2) >>= fun x2 => rng1M x2) ρ fun it1 h => loopOf (turnS (stN 1) (L1__law_is_own_mail fl ms o)) it1 ρ h)
  (seqS (fun ρ => liftE (pure (.bl true)) ρ fun d h => .ret d h)
  (fun ρ h => .next ρ h)))
def L1__law_mail_refused (fl ms : List (Str × Str)) (o : Ora) : Env → AH → RS := (seqS (fun ρ => liftE (((toldM ((getV ρ 2 >>= fun x109 => (pure .non >>= fun x111 => (pure .non >>= fun x113 => pure [] >>= fun l114 => pure (x113 :: l114)) >>= fun l112 => pure (x111 :: l112)) >>= fun l110 => pure (x109 :: l110)) >>= fun l108 => o ("had_read", none) l108) >>= fun x106 => pure [] >>= fun l107 => pure (x106 :: l107)) >>= fun l105 => dispM true l105) >>= fun d104 => stN 3 d104 ρ) ρ fun ρ h => .next ρ h)
  (seqS (fun ρ => liftE (getV ρ 3 >>= fun x115 => methM ms o "append" x115 (toldM ((getV ρ 2 >>= fun x119 => pure [] >>= fun l120 => pure (x119 :: l120)) >>= fun l118 => o ("can_be", none) l118) >>= fun x116 => pure [] >>= fun l117 => pure (x116 :: l117))) ρ fun _ h => .next ρ h)
  (seqS (fun ρ => liftE (getV ρ 3 >>= fun x121 => methM ms o "append" x121 (toldM ((getV ρ 2 >>= fun x125 => pure [] >>= fun l126 => pure (x125 :: l126)) >>= fun l124 => o ("how_many", none) l124) >>= fun x122 => pure [] >>= fun l123 => pure (x122 :: l123))) ρ fun _ h => .next ρ h)
  (seqS (fun ρ => liftE (getV ρ 3 >>= fun x127 => methM ms o "append" x127 (toldM ((getV ρ 2 >>= fun x131 => pure [] >>= fun l132 => pure (x131 :: l132)) >>= fun l130 => o ("crossed", none) l130) >>= fun x128 => pure [] >>= fun l129 => pure (x128 :: l129))) ρ fun _ h => .next ρ h)
  (seqS (fun ρ => liftE (getV ρ 3 >>= fun x133 => methM ms o "append" x133 (toldM ((getV ρ 2 >>= fun x137 => pure [] >>= fun l138 => pure (x137 :: l138)) >>= fun l136 => o ("standings", none) l136) >>= fun x134 => pure [] >>= fun l135 => pure (x134 :: l135))) ρ fun _ h => .next ρ h)
  (seqS (fun ρ => liftE (getV ρ 3 >>= fun x139 => methM ms o "append" x139 (toldM ((getV ρ 2 >>= fun x143 => pure [] >>= fun l144 => pure (x143 :: l144)) >>= fun l142 => o ("ties", none) l142) >>= fun x140 => pure [] >>= fun l141 => pure (x140 :: l141))) ρ fun _ h => .next ρ h)
  (seqS (fun ρ => liftE (getV ρ 3 >>= fun x145 => methM ms o "append" x145 (toldM ((getV ρ 2 >>= fun x149 => (pure .non >>= fun x151 => (pure .non >>= fun x153 => pure [] >>= fun l154 => pure (x153 :: l154)) >>= fun l152 => pure (x151 :: l152)) >>= fun l150 => pure (x149 :: l150)) >>= fun l148 => o ("can_date", none) l148) >>= fun x146 => pure [] >>= fun l147 => pure (x146 :: l147))) ρ fun _ h => .next ρ h)
  (seqS (fun ρ => liftE (getV ρ 3 >>= fun x155 => methM ms o "append" x155 (toldM ((getV ρ 2 >>= fun x159 => pure [] >>= fun l160 => pure (x159 :: l160)) >>= fun l158 => o ("mail_text", none) l158) >>= fun x156 => pure [] >>= fun l157 => pure (x156 :: l157))) ρ fun _ h => .next ρ h)
  (seqS (fun ρ => liftE (getV ρ 3 >>= fun x161 => methM ms o "append" x161 (toldM ((getV ρ 0 >>= fun x165 => (getV ρ 2 >>= fun x167 => pure [] >>= fun l168 => pure (x167 :: l168)) >>= fun l166 => pure (x165 :: l166)) >>= fun l164 => o ("parting", none) l164) >>= fun x162 => pure [] >>= fun l163 => pure (x162 :: l163))) ρ fun _ h => .next ρ h)
  (seqS (fun ρ => liftE ((((getV ρ 2 >>= fun x175 => pure [] >>= fun l176 => pure (x175 :: l176)) >>= fun l174 => o ("is_mail", none) l174) >>= fun x171 => pure (.bl false) >>= fun y172 => cmpM .IsNot x171 y172) >>= fun c170 => if c170 then pure true else (getV ρ 3 >>= fun x178 => (((((pure (.str "refused") >>= fun x187 => (pure (.str "BadMail") >>= fun x189 => pure [] >>= fun l190 => pure (x189 :: l190)) >>= fun l188 => pure (x187 :: l188)) >>= fun l186 => tupM l186) >>= fun x184 => pure [] >>= fun l185 => pure (x184 :: l185)) >>= fun l183 => dispM false l183) >>= fun x181 => pure (.int 9) >>= fun y182 => binM .Mult false x181 y182) >>= fun y179 => cmpM .NotEq x178 y179)) ρ fun c169 h => if c169 then (seqS (fun ρ => liftE (pure (.bl false)) ρ fun d h => .ret d h)
    (fun ρ h => .next ρ h)) ρ h else (fun ρ h => .next ρ h) ρ h)
  (fun ρ h => .next ρ h)))))))))))
def L2__law_mail_refused (fl ms : List (Str × Str)) (o : Ora) : Env → AH → RS := (seqS (fun ρ => liftE (((toldM ((getV ρ 0 >>= fun x273 => (getV ρ 2 >>= fun x275 => (pure .non >>= fun x277 => pure [] >>= fun l278 => pure (x277 :: l278)) >>= fun l276 => pure (x275 :: l276)) >>= fun l274 => pure (x273 :: l274)) >>= fun l272 => o ("had_read", none) l272) >>= fun x270 => pure [] >>= fun l271 => pure (x270 :: l271)) >>= fun l269 => dispM true l269) >>= fun d268 => stN 3 d268 ρ) ρ fun ρ h => .next ρ h)
  (seqS (fun ρ => liftE (getV ρ 3 >>= fun x279 => methM ms o "append" x279 (toldM ((getV ρ 0 >>= fun x283 => (getV ρ 2 >>= fun x285 => pure [] >>= fun l286 => pure (x285 :: l286)) >>= fun l284 => pure (x283 :: l284)) >>= fun l282 => o ("crossed_with", none) l282) >>= fun x280 => pure [] >>= fun l281 => pure (x280 :: l281))) ρ fun _ h => .next ρ h)
  (seqS (fun ρ => liftE (getV ρ 3 >>= fun x287 => methM ms o "append" x287 (toldM ((getV ρ 0 >>= fun x291 => (getV ρ 2 >>= fun x293 => (getV ρ 2 >>= fun x295 => pure [] >>= fun l296 => pure (x295 :: l296)) >>= fun l294 => pure (x293 :: l294)) >>= fun l292 => pure (x291 :: l292)) >>= fun l290 => o ("ahead_share", none) l290) >>= fun x288 => pure [] >>= fun l289 => pure (x288 :: l289))) ρ fun _ h => .next ρ h)
  (seqS (fun ρ => liftE ((getV ρ 3 >>= fun x301 => ((toldM ((getV ρ 0 >>= fun x307 => (getV ρ 2 >>= fun x309 => (pure .non >>= fun x311 => pure [] >>= fun l312 => pure (x311 :: l312)) >>= fun l310 => pure (x309 :: l310)) >>= fun l308 => pure (x307 :: l308)) >>= fun l306 => o ("surely_ahead", none) l306) >>= fun x304 => pure [] >>= fun l305 => pure (x304 :: l305)) >>= fun l303 => dispM false l303) >>= fun y302 => binM .Add false x301 y302) >>= fun x298 => (((((pure (.str "refused") >>= fun x319 => (pure (.str "BadLetter") >>= fun x321 => pure [] >>= fun l322 => pure (x321 :: l322)) >>= fun l320 => pure (x319 :: l320)) >>= fun l318 => tupM l318) >>= fun x316 => pure [] >>= fun l317 => pure (x316 :: l317)) >>= fun l315 => dispM false l315) >>= fun x313 => pure (.int 4) >>= fun y314 => binM .Mult false x313 y314) >>= fun y299 => cmpM .NotEq x298 y299) ρ fun c297 h => if c297 then (seqS (fun ρ => liftE (pure (.bl false)) ρ fun d h => .ret d h)
    (fun ρ h => .next ρ h)) ρ h else (fun ρ h => .next ρ h) ρ h)
  (fun ρ h => .next ρ h)))))
def S__law_mail_refused (fl ms : List (Str × Str)) : ClS := fun o => (seqS (fun ρ => liftE (((pure .non >>= fun x3 => (pure (.int 5) >>= fun x5 => ((pure [] >>= fun l9 => tupM l9) >>= fun x7 => ((getV ρ 0 >>= fun x12 => pure none >>= fun y13 => (pure (.int 1) >>= fun x15 => partM x15) >>= fun z14 => sliceM false x12 y13 z14) >>= fun x10 => (((getV ρ 0 >>= fun x19 => pure [] >>= fun l20 => pure (x19 :: l20)) >>= fun l18 => b_list false l18) >>= fun x16 => ((getV ρ 0 >>= fun x23 => (((pure [] >>= fun l28 => tupM l28) >>= fun x26 => pure [] >>= fun l27 => pure (x26 :: l27)) >>= fun l25 => tupM l25) >>= fun y24 => binM .Add false x23 y24) >>= fun x21 => ((((pure [] >>= fun l34 => dispM false l34) >>= fun x32 => ((pure [] >>= fun l37 => tupM l37) >>= fun x35 => pure [] >>= fun l36 => pure (x35 :: l36)) >>= fun l33 => pure (x32 :: l33)) >>= fun l31 => tupM l31) >>= fun x29 => ((((pure [] >>= fun l43 => tupM l43) >>= fun x41 => (pure .non >>= fun x44 => pure [] >>= fun l45 => pure (x44 :: l45)) >>= fun l42 => pure (x41 :: l42)) >>= fun l40 => tupM l40) >>= fun x38 => (((((pure (.int 1) >>= fun x52 => pure [] >>= fun l53 => pure (x52 :: l53)) >>= fun l51 => tupM l51) >>= fun x49 => ((pure [] >>= fun l56 => tupM l56) >>= fun x54 => pure [] >>= fun l55 => pure (x54 :: l55)) >>= fun l50 => pure (x49 :: l50)) >>= fun l48 => tupM l48) >>= fun x46 => pure [] >>= fun l47 => pure (x46 :: l47)) >>= fun l39 => pure (x38 :: l39)) >>= fun l30 => pure (x29 :: l30)) >>= fun l22 => pure (x21 :: l22)) >>= fun l17 => pure (x16 :: l17)) >>= fun l11 => pure (x10 :: l11)) >>= fun l8 => pure (x7 :: l8)) >>= fun l6 => pure (x5 :: l6)) >>= fun l4 => pure (x3 :: l4)) >>= fun l2 => dispM false l2) >>= fun d1 => stN 1 d1 ρ) ρ fun ρ h => .next ρ h)
  (seqS (fun ρ => liftE ((getV ρ 1 >>= fun x58 => (((((((pure (.int 0) >>= fun x69 => pure [] >>= fun l70 => pure (x69 :: l70)) >>= fun l68 => tupM l68) >>= fun x66 => pure (.int 8) >>= fun y67 => binM .Mult false x66 y67) >>= fun x64 => ((pure [] >>= fun l73 => tupM l73) >>= fun x71 => pure [] >>= fun l72 => pure (x71 :: l72)) >>= fun l65 => pure (x64 :: l65)) >>= fun l63 => tupM l63) >>= fun x61 => (((((pure (.int 1) >>= fun x80 => (pure (.int 0) >>= fun x82 => pure [] >>= fun l83 => pure (x82 :: l83)) >>= fun l81 => pure (x80 :: l81)) >>= fun l79 => tupM l79) >>= fun x77 => (((pure (.int 0) >>= fun x87 => pure [] >>= fun l88 => pure (x87 :: l88)) >>= fun l86 => tupM l86) >>= fun x84 => pure [] >>= fun l85 => pure (x84 :: l85)) >>= fun l78 => pure (x77 :: l78)) >>= fun l76 => tupM l76) >>= fun x74 => (((((pure (.bl true) >>= fun x95 => pure [] >>= fun l96 => pure (x95 :: l96)) >>= fun l94 => tupM l94) >>= fun x92 => (((pure (.int 0) >>= fun x100 => pure [] >>= fun l101 => pure (x100 :: l101)) >>= fun l99 => tupM l99) >>= fun x97 => pure [] >>= fun l98 => pure (x97 :: l98)) >>= fun l93 => pure (x92 :: l93)) >>= fun l91 => tupM l91) >>= fun x89 => pure [] >>= fun l90 => pure (x89 :: l90)) >>= fun l75 => pure (x74 :: l75)) >>= fun l62 => pure (x61 :: l62)) >>= fun l60 => dispM false l60) >>= fun y59 => binM .Add false x58 y59) >>= fun d57 => stN 1 d57 ρ) ρ fun ρ h => .next ρ h)
  (seqS (fun ρ => liftE (getV ρ 1 >>= fun x103 => itM x103) ρ fun it102 h => loopOf (turnS (stN 2) (L1__law_mail_refused fl ms o)) it102 ρ h)
  (seqS (fun ρ => liftE (((pure .non >>= fun x193 => (pure (.int 5) >>= fun x195 => ((pure [] >>= fun l199 => tupM l199) >>= fun x197 => (((pure (.int 0) >>= fun x203 => pure [] >>= fun l204 => pure (x203 :: l204)) >>= fun l202 => tupM l202) >>= fun x200 => (((pure (.int 2) >>= fun x208 => (pure (.int 0) >>= fun x210 => pure [] >>= fun l211 => pure (x210 :: l211)) >>= fun l209 => pure (x208 :: l209)) >>= fun l207 => tupM l207) >>= fun x205 => (((pure (.int 0) >>= fun x215 => ((((getV ρ 0 >>= fun x222 => pure (.int 0) >>= fun y223 => idxM x222 y223) >>= fun x220 => pure [] >>= fun l221 => pure (x220 :: l221)) >>= fun l219 => b_len l219) >>= fun x217 => pure [] >>= fun l218 => pure (x217 :: l218)) >>= fun l216 => pure (x215 :: l216)) >>= fun l214 => tupM l214) >>= fun x212 => (((pure (.int 1) >>= fun x227 => ((pure (.int 1) >>= fun x231 => negM x231) >>= fun x229 => pure [] >>= fun l230 => pure (x229 :: l230)) >>= fun l228 => pure (x227 :: l228)) >>= fun l226 => tupM l226) >>= fun x224 => (((pure (.int 0) >>= fun x235 => (pure (.int 0) >>= fun x237 => pure [] >>= fun l238 => pure (x237 :: l238)) >>= fun l236 => pure (x235 :: l236)) >>= fun l234 => dispM false l234) >>= fun x232 => (((pure (.bl true) >>= fun x242 => (pure (.int 0) >>= fun x244 => pure [] >>= fun l245 => pure (x244 :: l245)) >>= fun l243 => pure (x242 :: l243)) >>= fun l241 => tupM l241) >>= fun x239 => pure [] >>= fun l240 => pure (x239 :: l240)) >>= fun l233 => pure (x232 :: l233)) >>= fun l225 => pure (x224 :: l225)) >>= fun l213 => pure (x212 :: l213)) >>= fun l206 => pure (x205 :: l206)) >>= fun l201 => pure (x200 :: l201)) >>= fun l198 => pure (x197 :: l198)) >>= fun l196 => pure (x195 :: l196)) >>= fun l194 => pure (x193 :: l194)) >>= fun l192 => dispM false l192) >>= fun d191 => stN 1 d191 ρ) ρ fun ρ h => .next ρ h)
  (seqS (fun ρ => liftE ((getV ρ 1 >>= fun x247 => ((((pure (.int 0) >>= fun x253 => (pure (.bl true) >>= fun x255 => pure [] >>= fun l256 => pure (x255 :: l256)) >>= fun l254 => pure (x253 :: l254)) >>= fun l252 => tupM l252) >>= fun x250 => (((pure (.int 0) >>= fun x260 => (pure (.int 0) >>= fun x262 => (pure (.int 0) >>= fun x264 => pure [] >>= fun l265 => pure (x264 :: l265)) >>= fun l263 => pure (x262 :: l263)) >>= fun l261 => pure (x260 :: l261)) >>= fun l259 => tupM l259) >>= fun x257 => pure [] >>= fun l258 => pure (x257 :: l258)) >>= fun l251 => pure (x250 :: l251)) >>= fun l249 => dispM false l249) >>= fun y248 => binM .Add false x247 y248) >>= fun d246 => stN 1 d246 ρ) ρ fun ρ h => .next ρ h)
  (seqS (fun ρ => liftE (getV ρ 1 >>= fun x267 => itM x267) ρ fun it266 h => loopOf (turnS (stN 2) (L2__law_mail_refused fl ms o)) it266 ρ h)
  (seqS (fun ρ => liftE (pure (.bl true)) ρ fun d h => .ret d h)
  (fun ρ h => .next ρ h))))))))
def L1_is_good_order (fl ms : List (Str × Str)) (o : Ora) : Env → AH → RS := (seqS (fun ρ => liftE ((((getV ρ 0 >>= fun x36 => (getV ρ 2 >>= fun x38 => (getV ρ 3 >>= fun x40 => pure [] >>= fun l41 => pure (x40 :: l41)) >>= fun l39 => pure (x38 :: l39)) >>= fun l37 => pure (x36 :: l37)) >>= fun l35 => o ("may_write", none) l35) >>= fun x34 => asBool x34) >>= fun b33 => pure (!b33)) ρ fun c32 h => if c32 then (seqS (fun ρ => liftE (pure (.bl false)) ρ fun d h => .ret d h)
    (fun ρ h => .next ρ h)) ρ h else (fun ρ h => .next ρ h) ρ h)
  (seqS (fun ρ => liftE (((getV ρ 2 >>= fun x44 => (getV ρ 3 >>= fun x46 => pure [] >>= fun l47 => pure (x46 :: l47)) >>= fun l45 => pure (x44 :: l45)) >>= fun l43 => o ("after", none) l43) >>= fun d42 => stN 2 d42 ρ) ρ fun ρ h => .next ρ h)
  (fun ρ h => .next ρ h)))
def S_is_good_order (fl ms : List (Str × Str)) : ClS := fun o => (seqS (fun ρ => liftE ((((getV ρ 1 >>= fun x6 => isiM x6 .tuple >>= fun b7 => pure (.bl b7)) >>= fun x4 => asBool x4) >>= fun b3 => pure (!b3)) >>= fun c2 => if c2 then pure true else ((((((getV ρ 1 >>= fun x16 => itM x16) >>= fun it14 => M.nox (compIt (turnC (stN 3) (fun ρ => pure true) (fun ρ => ((getV ρ 3 >>= fun x18 => (pure (.int 0) >>= fun x20 => (pure (.int 1) >>= fun x22 => pure [] >>= fun l23 => pure (x22 :: l23)) >>= fun l21 => pure (x20 :: l21)) >>= fun l19 => pure (x18 :: l19)) >>= fun l17 => o ("is_whole", none) l17)) (wipeE ρ [3])) it14) >>= fun l15 => newL false l15) >>= fun x12 => pure [] >>= fun l13 => pure (x12 :: l13)) >>= fun l11 => b_all l11) >>= fun x10 => asBool x10) >>= fun b9 => pure (!b9))) ρ fun c1 h => if c1 then (seqS (fun ρ => liftE (pure (.bl false)) ρ fun d h => .ret d h)
    (fun ρ h => .next ρ h)) ρ h else (fun ρ h => .next ρ h) ρ h)
  (seqS (fun ρ => liftE (((pure (.int 0) >>= fun x26 => (pure (.int 0) >>= fun x28 => pure [] >>= fun l29 => pure (x28 :: l29)) >>= fun l27 => pure (x26 :: l27)) >>= fun l25 => tupM l25) >>= fun d24 => stN 2 d24 ρ) ρ fun ρ h => .next ρ h)
  (seqS (fun ρ => liftE (getV ρ 1 >>= fun x31 => itM x31) ρ fun it30 h => loopOf (turnS (stN 3) (L1_is_good_order fl ms o)) it30 ρ h)
  (seqS (fun ρ => liftE (getV ρ 2 >>= fun x48 => ((getV ρ 0 >>= fun x52 => pure [] >>= fun l53 => pure (x52 :: l53)) >>= fun l51 => o ("end_of", none) l51) >>= fun y49 => cmpM .Eq x48 y49 >>= fun c50 => pure (.bl c50)) ρ fun d h => .ret d h)
  (fun ρ h => .next ρ h)))))
def S_is_order (fl ms : List (Str × Str)) : ClS := fun o => (seqS (fun ρ => liftE ((getV ρ 0 >>= fun x2 => pure [] >>= fun l3 => pure (x2 :: l3)) >>= fun l1 => o ("need_mail", none) l1) ρ fun _ h => .next ρ h)
  (seqS (fun ρ => liftE ((getV ρ 0 >>= fun x5 => (getV ρ 1 >>= fun x7 => pure [] >>= fun l8 => pure (x7 :: l8)) >>= fun l6 => pure (x5 :: l6)) >>= fun l4 => o ("is_good_order", none) l4) ρ fun d h => .ret d h)
  (fun ρ h => .next ρ h)))
def S_first_order (fl ms : List (Str × Str)) : ClS := fun o => (seqS (fun ρ => liftE ((getV ρ 0 >>= fun x2 => pure [] >>= fun l3 => pure (x2 :: l3)) >>= fun l1 => o ("need_mail", none) l1) ρ fun _ h => .next ρ h)
  (seqS (fun ρ => liftE ((((getV ρ 0 >>= fun x9 => pure [] >>= fun l10 => pure (x9 :: l10)) >>= fun l8 => o ("count_of", none) l8) >>= fun x5 => pure (.int 0) >>= fun y6 => cmpM .Gt x5 y6) >>= fun c4 => if c4 then (((getV ρ 0 >>= fun x13 => pure [] >>= fun l14 => pure (x13 :: l14)) >>= fun l12 => makeM o "Ways" l12) >>= fun x11 => methM ms o "at" x11 (pure (.int 0) >>= fun x15 => pure [] >>= fun l16 => pure (x15 :: l16))) else pure .non) ρ fun d h => .ret d h)
  (fun ρ h => .next ρ h)))
def S_orders (fl ms : List (Str × Str)) : ClS := fun o => (seqS (fun ρ => liftE ((getV ρ 0 >>= fun x2 => pure [] >>= fun l3 => pure (x2 :: l3)) >>= fun l1 => o ("need_mail", none) l1) ρ fun _ h => .next ρ h)
  (seqS (fun ρ => liftE (((getV ρ 0 >>= fun x9 => pure [] >>= fun l10 => pure (x9 :: l10)) >>= fun l8 => o ("count_of", none) l8) >>= fun x5 => pure (.int 300) >>= fun y6 => cmpM .Gt x5 y6) ρ fun c4 h => if c4 then (seqS (fun ρ => fun h => .exc "Full" ρ h)
    (fun ρ h => .next ρ h)) ρ h else (fun ρ h => .next ρ h) ρ h)
  (seqS (fun ρ => liftE (((getV ρ 0 >>= fun x13 => pure [] >>= fun l14 => pure (x13 :: l14)) >>= fun l12 => makeM o "Ways" l12) >>= fun x11 => methM ms o "every" x11 (((pure (.int 0) >>= fun x18 => (pure (.int 0) >>= fun x20 => pure [] >>= fun l21 => pure (x20 :: l21)) >>= fun l19 => pure (x18 :: l19)) >>= fun l17 => tupM l17) >>= fun x15 => pure [] >>= fun l16 => pure (x15 :: l16))) ρ fun d h => .ret d h)
  (fun ρ h => .next ρ h))))
def S_order_at (fl ms : List (Str × Str)) : ClS := fun o => (seqS (fun ρ => liftE ((getV ρ 0 >>= fun x2 => pure [] >>= fun l3 => pure (x2 :: l3)) >>= fun l1 => o ("need_mail", none) l1) ρ fun _ h => .next ρ h)
  (seqS (fun ρ => liftE ((((getV ρ 1 >>= fun x8 => (pure (.int 0) >>= fun x10 => ((((getV ρ 0 >>= fun x17 => pure [] >>= fun l18 => pure (x17 :: l18)) >>= fun l16 => o ("count_of", none) l16) >>= fun x14 => pure (.int 1) >>= fun y15 => binM .Sub false x14 y15) >>= fun x12 => pure [] >>= fun l13 => pure (x12 :: l13)) >>= fun l11 => pure (x10 :: l11)) >>= fun l9 => pure (x8 :: l9)) >>= fun l7 => o ("is_whole", none) l7) >>= fun x6 => asBool x6) >>= fun b5 => pure (!b5)) ρ fun c4 h => if c4 then (seqS (fun ρ => fun h => .exc "BadNumber" ρ h)
    (fun ρ h => .next ρ h)) ρ h else (fun ρ h => .next ρ h) ρ h)
  (seqS (fun ρ => liftE (((getV ρ 0 >>= fun x21 => pure [] >>= fun l22 => pure (x21 :: l22)) >>= fun l20 => makeM o "Ways" l20) >>= fun x19 => methM ms o "at" x19 (getV ρ 1 >>= fun x23 => pure [] >>= fun l24 => pure (x23 :: l24))) ρ fun d h => .ret d h)
  (fun ρ h => .next ρ h))))
def S_number_of (fl ms : List (Str × Str)) : ClS := fun o => (seqS (fun ρ => liftE ((getV ρ 0 >>= fun x2 => pure [] >>= fun l3 => pure (x2 :: l3)) >>= fun l1 => o ("need_mail", none) l1) ρ fun _ h => .next ρ h)
  (seqS (fun ρ => liftE ((((getV ρ 0 >>= fun x8 => (getV ρ 1 >>= fun x10 => pure [] >>= fun l11 => pure (x10 :: l11)) >>= fun l9 => pure (x8 :: l9)) >>= fun l7 => o ("is_good_order", none) l7) >>= fun x6 => asBool x6) >>= fun b5 => pure (!b5)) ρ fun c4 h => if c4 then (seqS (fun ρ => fun h => .exc "BadOrder" ρ h)
    (fun ρ h => .next ρ h)) ρ h else (fun ρ h => .next ρ h) ρ h)
  (seqS (fun ρ => liftE (((getV ρ 0 >>= fun x14 => pure [] >>= fun l15 => pure (x14 :: l15)) >>= fun l13 => makeM o "Ways" l13) >>= fun x12 => methM ms o "number" x12 (getV ρ 1 >>= fun x16 => pure [] >>= fun l17 => pure (x16 :: l17))) ρ fun d h => .ret d h)
  (fun ρ h => .next ρ h))))
def S_letters_of (fl ms : List (Str × Str)) : ClS := fun o => (seqS (fun ρ => liftE (pure (.str "") >>= fun x1 => methM ms o "join" x1 (((getV ρ 0 >>= fun x6 => itM x6) >>= fun it4 => M.nox (compIt (turnC (stN 1) (fun ρ => pure true) (fun ρ => (pure (.str "ab") >>= fun x7 => getV ρ 1 >>= fun y8 => idxM x7 y8)) (wipeE ρ [1])) it4) >>= fun l5 => newL false l5) >>= fun x2 => pure [] >>= fun l3 => pure (x2 :: l3))) ρ fun d h => .ret d h)
  (fun ρ h => .next ρ h))
def S_order_text (fl ms : List (Str × Str)) : ClS := fun o => (seqS (fun ρ => liftE ((getV ρ 0 >>= fun x2 => pure [] >>= fun l3 => pure (x2 :: l3)) >>= fun l1 => o ("need_mail", none) l1) ρ fun _ h => .next ρ h)
  (seqS (fun ρ => liftE ((((getV ρ 0 >>= fun x8 => (getV ρ 1 >>= fun x10 => pure [] >>= fun l11 => pure (x10 :: l11)) >>= fun l9 => pure (x8 :: l9)) >>= fun l7 => o ("is_good_order", none) l7) >>= fun x6 => asBool x6) >>= fun b5 => pure (!b5)) ρ fun c4 h => if c4 then (seqS (fun ρ => fun h => .exc "BadOrder" ρ h)
    (fun ρ h => .next ρ h)) ρ h else (fun ρ h => .next ρ h) ρ h)
  (seqS (fun ρ => liftE ((getV ρ 1 >>= fun x13 => pure [] >>= fun l14 => pure (x13 :: l14)) >>= fun l12 => o ("letters_of", none) l12) ρ fun d h => .ret d h)
  (fun ρ h => .next ρ h))))
def L1__law_lets (fl ms : List (Str × Str)) (o : Ora) : Env → AH → RS := (seqS (fun ρ => liftE (((getV ρ 0 >>= fun x15 => getV ρ 3 >>= fun y16 => idxM x15 y16) >>= fun x13 => (getV ρ 2 >>= fun x17 => getV ρ 3 >>= fun y18 => idxM x17 y18) >>= fun y14 => idxM x13 y14) >>= fun x10 => (getV ρ 2 >>= fun x19 => (pure (.int 1) >>= fun x21 => getV ρ 3 >>= fun y22 => binM .Sub false x21 y22) >>= fun y20 => idxM x19 y20) >>= fun y11 => cmpM .Gt x10 y11) ρ fun c9 h => if c9 then (seqS (fun ρ => liftE (pure (.bl false)) ρ fun d h => .ret d h)
    (fun ρ h => .next ρ h)) ρ h else (fun ρ h => .next ρ h) ρ h)
  (seqS (fun ρ => liftE (((((getV ρ 2 >>= fun x29 => pure (.int 0) >>= fun y30 => idxM x29 y30) >>= fun x27 => (((getV ρ 3 >>= fun x34 => pure (.int 0) >>= fun y35 => cmpM .Eq x34 y35 >>= fun c36 => pure (.bl c36)) >>= fun x32 => pure [] >>= fun l33 => pure (x32 :: l33)) >>= fun l31 => b_int l31) >>= fun y28 => binM .Add false x27 y28) >>= fun x25 => (((getV ρ 2 >>= fun x41 => pure (.int 1) >>= fun y42 => idxM x41 y42) >>= fun x39 => (((getV ρ 3 >>= fun x46 => pure (.int 1) >>= fun y47 => cmpM .Eq x46 y47 >>= fun c48 => pure (.bl c48)) >>= fun x44 => pure [] >>= fun l45 => pure (x44 :: l45)) >>= fun l43 => b_int l43) >>= fun y40 => binM .Add false x39 y40) >>= fun x37 => pure [] >>= fun l38 => pure (x37 :: l38)) >>= fun l26 => pure (x25 :: l26)) >>= fun l24 => dispM false l24) >>= fun d23 => stN 2 d23 ρ) ρ fun ρ h => .next ρ h)
  (fun ρ h => .next ρ h)))
def S__law_lets (fl ms : List (Str × Str)) : ClS := fun o => (seqS (fun ρ => liftE (((pure (.int 0) >>= fun x3 => (pure (.int 0) >>= fun x5 => pure [] >>= fun l6 => pure (x5 :: l6)) >>= fun l4 => pure (x3 :: l4)) >>= fun l2 => dispM false l2) >>= fun d1 => stN 2 d1 ρ) ρ fun ρ h => .next ρ h)
  (seqS (fun ρ => liftE (getV ρ 1 >>= fun x8 => itM x8) ρ fun it7 h => loopOf (turnS (stN 3) (L1__law_lets fl ms o)) it7 ρ h)
  (seqS (fun ρ => liftE (pure (.bl true)) ρ fun d h => .ret d h)
  (fun ρ h => .next ρ h))))
def L2__law_turns (fl ms : List (Str × Str)) (o : Ora) : Env → AH → RS := (seqS (fun ρ => liftE ((getV ρ 4 >>= fun x16 => ((((pure (.int 0) >>= fun x35 => (pure (.int 1) >>= fun x37 => pure [] >>= fun l38 => pure (x37 :: l38)) >>= fun l36 => pure (x35 :: l36)) >>= fun l34 => tupM l34) >>= fun x33 => itM x33) >>= fun it18 => M.nox (compIt (turnC (stN 6) (fun ρ => ((getV ρ 5 >>= fun x23 => methM ms o "count" x23 (getV ρ 6 >>= fun x24 => pure [] >>= fun l25 => pure (x24 :: l25))) >>= fun x20 => (((getV ρ 0 >>= fun x29 => (getV ρ 1 >>= fun x31 => pure [] >>= fun l32 => pure (x31 :: l32)) >>= fun l30 => pure (x29 :: l30)) >>= fun l28 => tupM l28) >>= fun x26 => getV ρ 6 >>= fun y27 => idxM x26 y27) >>= fun y21 => cmpM .Lt x20 y21)) (fun ρ => (getV ρ 5 >>= fun x39 => ((getV ρ 6 >>= fun x42 => pure [] >>= fun l43 => pure (x42 :: l43)) >>= fun l41 => tupM l41) >>= fun y40 => binM .Add false x39 y40)) (wipeE ρ [6])) it18) >>= fun l19 => newL false l19) >>= fun y17 => binM .Add false x16 y17) >>= fun d15 => stN 4 d15 ρ) ρ fun ρ h => .next ρ h)
  (fun ρ h => .next ρ h))
def L1__law_turns (fl ms : List (Str × Str)) (o : Ora) : Env → AH → RS := (seqS (fun ρ => liftE ((pure [] >>= fun l12 => dispM false l12) >>= fun d11 => stN 4 d11 ρ) ρ fun ρ h => .next ρ h)
  (seqS (fun ρ => liftE (getV ρ 2 >>= fun x14 => itM x14) ρ fun it13 h => loopOf (turnS (stN 5) (L2__law_turns fl ms o)) it13 ρ h)
  (seqS (fun ρ => liftE (getV ρ 4 >>= fun d44 => stN 2 d44 ρ) ρ fun ρ h => .next ρ h)
  (fun ρ h => .next ρ h))))
def S__law_turns (fl ms : List (Str × Str)) : ClS := fun o => (seqS (fun ρ => liftE ((((pure [] >>= fun l5 => tupM l5) >>= fun x3 => pure [] >>= fun l4 => pure (x3 :: l4)) >>= fun l2 => dispM false l2) >>= fun d1 => stN 2 d1 ρ) ρ fun ρ h => .next ρ h)
  (seqS (fun ρ => liftE ((getV ρ 0 >>= fun x9 => getV ρ 1 >>= fun y10 => binM .Add false x9 y10) >>= fun x7 => rng1M x7) ρ fun it6 h => loopOf (turnS (stN 3) (L1__law_turns fl ms o)) it6 ρ h)
  (seqS (fun ρ => liftE (getV ρ 2) ρ fun d h => .ret d h)
  (fun ρ h => .next ρ h))))
def S__law_orders (fl ms : List (Str × Str)) : ClS := fun o => (seqS (fun ρ => liftE (((((((getV ρ 0 >>= fun x16 => pure (.int 0) >>= fun y17 => idxM x16 y17) >>= fun x14 => pure [] >>= fun l15 => pure (x14 :: l15)) >>= fun l13 => b_len l13) >>= fun x11 => ((((getV ρ 0 >>= fun x23 => pure (.int 1) >>= fun y24 => idxM x23 y24) >>= fun x21 => pure [] >>= fun l22 => pure (x21 :: l22)) >>= fun l20 => b_len l20) >>= fun x18 => pure [] >>= fun l19 => pure (x18 :: l19)) >>= fun l12 => pure (x11 :: l12)) >>= fun l10 => o ("_law_turns", none) l10) >>= fun x9 => itM x9) >>= fun it1 => M.nox (compIt (turnC (stN 1) (fun ρ => (((getV ρ 0 >>= fun x5 => (getV ρ 1 >>= fun x7 => pure [] >>= fun l8 => pure (x7 :: l8)) >>= fun l6 => pure (x5 :: l6)) >>= fun l4 => o ("_law_lets", none) l4) >>= fun x3 => asBool x3)) (fun ρ => getV ρ 1) (wipeE ρ [1])) it1) >>= fun l2 => newL false l2) ρ fun d h => .ret d h)
  (fun ρ h => .next ρ h))
def L1__law_orders_refused (fl ms : List (Str × Str)) (o : Ora) : Env → AH → RS := (seqS (fun ρ => liftE (((toldM ((getV ρ 0 >>= fun x97 => (getV ρ 3 >>= fun x99 => pure [] >>= fun l100 => pure (x99 :: l100)) >>= fun l98 => pure (x97 :: l98)) >>= fun l96 => o ("number_of", none) l96) >>= fun x94 => pure [] >>= fun l95 => pure (x94 :: l95)) >>= fun l93 => dispM true l93) >>= fun d92 => stN 4 d92 ρ) ρ fun ρ h => .next ρ h)
  (seqS (fun ρ => liftE (getV ρ 4 >>= fun x101 => methM ms o "append" x101 (toldM ((getV ρ 0 >>= fun x105 => (getV ρ 3 >>= fun x107 => pure [] >>= fun l108 => pure (x107 :: l108)) >>= fun l106 => pure (x105 :: l106)) >>= fun l104 => o ("order_text", none) l104) >>= fun x102 => pure [] >>= fun l103 => pure (x102 :: l103))) ρ fun _ h => .next ρ h)
  (seqS (fun ρ => liftE ((((getV ρ 0 >>= fun x115 => (getV ρ 3 >>= fun x117 => pure [] >>= fun l118 => pure (x117 :: l118)) >>= fun l116 => pure (x115 :: l116)) >>= fun l114 => o ("is_order", none) l114) >>= fun x111 => pure (.bl false) >>= fun y112 => cmpM .IsNot x111 y112) >>= fun c110 => if c110 then pure true else (getV ρ 4 >>= fun x120 => (((((pure (.str "refused") >>= fun x129 => (pure (.str "BadOrder") >>= fun x131 => pure [] >>= fun l132 => pure (x131 :: l132)) >>= fun l130 => pure (x129 :: l130)) >>= fun l128 => tupM l128) >>= fun x126 => pure [] >>= fun l127 => pure (x126 :: l127)) >>= fun l125 => dispM false l125) >>= fun x123 => pure (.int 2) >>= fun y124 => binM .Mult false x123 y124) >>= fun y121 => cmpM .NotEq x120 y121)) ρ fun c109 h => if c109 then (seqS (fun ρ => liftE (pure (.bl false)) ρ fun d h => .ret d h)
    (fun ρ h => .next ρ h)) ρ h else (fun ρ h => .next ρ h) ρ h)
  (fun ρ h => .next ρ h))))
def L2__law_orders_refused (fl ms : List (Str × Str)) (o : Ora) : Env → AH → RS := (seqS (fun ρ => liftE (toldM ((getV ρ 0 >>= fun x153 => (getV ρ 3 >>= fun x155 => pure [] >>= fun l156 => pure (x155 :: l156)) >>= fun l154 => pure (x153 :: l154)) >>= fun l152 => o ("order_at", none) l152) >>= fun x149 => ((pure (.str "refused") >>= fun x158 => (pure (.str "BadNumber") >>= fun x160 => pure [] >>= fun l161 => pure (x160 :: l161)) >>= fun l159 => pure (x158 :: l159)) >>= fun l157 => tupM l157) >>= fun y150 => cmpM .NotEq x149 y150) ρ fun c148 h => if c148 then (seqS (fun ρ => liftE (pure (.bl false)) ρ fun d h => .ret d h)
    (fun ρ h => .next ρ h)) ρ h else (fun ρ h => .next ρ h) ρ h)
  (fun ρ h => .next ρ h))
def S__law_orders_refused (fl ms : List (Str × Str)) : ClS := fun o => (seqS (fun ρ => liftE (((pure .non >>= fun x3 => (pure (.int 5) >>= fun x5 => (pure (.str "ab") >>= fun x7 => (((pure (.int 0) >>= fun x12 => pure [] >>= fun l13 => pure (x12 :: l13)) >>= fun l11 => dispM false l11) >>= fun x9 => (((pure (.int 2) >>= fun x17 => pure [] >>= fun l18 => pure (x17 :: l18)) >>= fun l16 => tupM l16) >>= fun x14 => (((pure (.bl true) >>= fun x22 => pure [] >>= fun l23 => pure (x22 :: l23)) >>= fun l21 => tupM l21) >>= fun x19 => ((((pure (.int 0) >>= fun x29 => pure [] >>= fun l30 => pure (x29 :: l30)) >>= fun l28 => tupM l28) >>= fun x26 => pure (.int 20) >>= fun y27 => binM .Mult false x26 y27) >>= fun x24 => ((((pure (.int 0) >>= fun x36 => (pure (.int 1) >>= fun x38 => pure [] >>= fun l39 => pure (x38 :: l39)) >>= fun l37 => pure (x36 :: l37)) >>= fun l35 => tupM l35) >>= fun x33 => pure (.int 9) >>= fun y34 => binM .Mult false x33 y34) >>= fun x31 => (((pure .non >>= fun x43 => pure [] >>= fun l44 => pure (x43 :: l44)) >>= fun l42 => tupM l42) >>= fun x40 => pure [] >>= fun l41 => pure (x40 :: l41)) >>= fun l32 => pure (x31 :: l32)) >>= fun l25 => pure (x24 :: l25)) >>= fun l20 => pure (x19 :: l20)) >>= fun l15 => pure (x14 :: l15)) >>= fun l10 => pure (x9 :: l10)) >>= fun l8 => pure (x7 :: l8)) >>= fun l6 => pure (x5 :: l6)) >>= fun l4 => pure (x3 :: l4)) >>= fun l2 => dispM false l2) >>= fun d1 => stN 2 d1 ρ) ρ fun ρ h => .next ρ h)
  (seqS (fun ρ => liftE (((getV ρ 2 >>= fun x48 => (((getV ρ 1 >>= fun x53 => pure none >>= fun y54 => (pure (.int 1) >>= fun x56 => partM x56) >>= fun z55 => sliceM false x53 y54 z55) >>= fun x52 => itM x52) >>= fun it50 => M.nox (compIt (turnC (stN 5) (fun ρ => pure true) (fun ρ => ((getV ρ 5 >>= fun x58 => pure [] >>= fun l59 => pure (x58 :: l59)) >>= fun l57 => b_list false l57)) (wipeE ρ [5])) it50) >>= fun l51 => newL false l51) >>= fun y49 => binM .Add false x48 y49) >>= fun x46 => (((getV ρ 1 >>= fun x63 => pure none >>= fun y64 => (pure (.int 1) >>= fun x66 => partM x66) >>= fun z65 => sliceM false x63 y64 z65) >>= fun x62 => itM x62) >>= fun it60 => M.nox (compIt (turnC (stN 5) (fun ρ => pure true) (fun ρ => (getV ρ 5 >>= fun x67 => ((pure (.int 0) >>= fun x70 => pure [] >>= fun l71 => pure (x70 :: l71)) >>= fun l69 => tupM l69) >>= fun y68 => binM .Add false x67 y68)) (wipeE ρ [5])) it60) >>= fun l61 => newL false l61) >>= fun y47 => binM .Add false x46 y47) >>= fun d45 => stN 2 d45 ρ) ρ fun ρ h => .next ρ h)
  (seqS (fun ρ => liftE ((getV ρ 2 >>= fun x73 => (((getV ρ 1 >>= fun x82 => pure none >>= fun y83 => (pure (.int 1) >>= fun x85 => partM x85) >>= fun z84 => sliceM false x82 y83 z84) >>= fun x81 => itM x81) >>= fun it75 => M.nox (compIt (turnC (stN 5) (fun ρ => (getV ρ 5 >>= fun x77 => (pure [] >>= fun l80 => tupM l80) >>= fun y78 => cmpM .NotEq x77 y78)) (fun ρ => (getV ρ 5 >>= fun x86 => (pure (.int 1) >>= fun x89 => partM x89) >>= fun y87 => pure none >>= fun z88 => sliceM false x86 y87 z88)) (wipeE ρ [5])) it75) >>= fun l76 => newL false l76) >>= fun y74 => binM .Add false x73 y74) >>= fun d72 => stN 2 d72 ρ) ρ fun ρ h => .next ρ h)
  (seqS (fun ρ => liftE (getV ρ 2 >>= fun x91 => itM x91) ρ fun it90 h => loopOf (turnS (stN 3) (L1__law_orders_refused fl ms o)) it90 ρ h)
  (seqS (fun ρ => liftE ((((pure (.int 1) >>= fun x138 => negM x138) >>= fun x136 => (((getV ρ 1 >>= fun x142 => pure [] >>= fun l143 => pure (x142 :: l143)) >>= fun l141 => b_len l141) >>= fun x139 => (pure (.bl true) >>= fun x144 => (pure .non >>= fun x146 => pure [] >>= fun l147 => pure (x146 :: l147)) >>= fun l145 => pure (x144 :: l145)) >>= fun l140 => pure (x139 :: l140)) >>= fun l137 => pure (x136 :: l137)) >>= fun l135 => dispM false l135) >>= fun x134 => itM x134) ρ fun it133 h => loopOf (turnS (stN 3) (L2__law_orders_refused fl ms o)) it133 ρ h)
  (seqS (fun ρ => liftE (pure (.bl true)) ρ fun d h => .ret d h)
  (fun ρ h => .next ρ h)))))))
def L1_sure_pairs (fl ms : List (Str × Str)) (o : Ora) : Env → AH → RS := (seqS (fun ρ => liftE (((((getV ρ 0 >>= fun x26 => pure [] >>= fun l27 => pure (x26 :: l27)) >>= fun l25 => o ("all_letters", none) l25) >>= fun x24 => itM x24) >>= fun it15 => M.nox (compIt (turnC (stN 4) (fun ρ => ((getV ρ 4 >>= fun x20 => pure (.int 0) >>= fun y21 => idxM x20 y21) >>= fun x17 => (getV ρ 2 >>= fun x22 => pure (.int 0) >>= fun y23 => idxM x22 y23) >>= fun y18 => cmpM .NotEq x17 y18)) (fun ρ => getV ρ 4) (wipeE ρ [4])) it15) >>= fun l16 => newL false l16) >>= fun d14 => stN 3 d14 ρ) ρ fun ρ h => .next ρ h)
  (seqS (fun ρ => liftE ((getV ρ 1 >>= fun x29 => ((getV ρ 3 >>= fun x46 => itM x46) >>= fun it31 => M.nox (compIt (turnC (stN 4) (fun ρ => (((getV ρ 0 >>= fun x37 => (getV ρ 2 >>= fun x39 => (getV ρ 4 >>= fun x41 => pure [] >>= fun l42 => pure (x41 :: l42)) >>= fun l40 => pure (x39 :: l40)) >>= fun l38 => pure (x37 :: l38)) >>= fun l36 => o ("count_ahead", none) l36) >>= fun x33 => ((getV ρ 0 >>= fun x44 => pure [] >>= fun l45 => pure (x44 :: l45)) >>= fun l43 => o ("count_of", none) l43) >>= fun y34 => cmpM .Eq x33 y34)) (fun ρ => ((getV ρ 2 >>= fun x48 => (getV ρ 4 >>= fun x50 => pure [] >>= fun l51 => pure (x50 :: l51)) >>= fun l49 => pure (x48 :: l49)) >>= fun l47 => tupM l47)) (wipeE ρ [4])) it31) >>= fun l32 => newL false l32) >>= fun y30 => binM .Add false x29 y30) >>= fun d28 => stN 1 d28 ρ) ρ fun ρ h => .next ρ h)
  (fun ρ h => .next ρ h)))
def S_sure_pairs (fl ms : List (Str × Str)) : ClS := fun o => (seqS (fun ρ => liftE ((getV ρ 0 >>= fun x2 => pure [] >>= fun l3 => pure (x2 :: l3)) >>= fun l1 => o ("need_mail", none) l1) ρ fun _ h => .next ρ h)
  (seqS (fun ρ => liftE ((getV ρ 0 >>= fun x5 => pure [] >>= fun l6 => pure (x5 :: l6)) >>= fun l4 => o ("need_there", none) l4) ρ fun _ h => .next ρ h)
  (seqS (fun ρ => liftE ((pure [] >>= fun l8 => dispM false l8) >>= fun d7 => stN 1 d7 ρ) ρ fun ρ h => .next ρ h)
  (seqS (fun ρ => liftE (((getV ρ 0 >>= fun x12 => pure [] >>= fun l13 => pure (x12 :: l13)) >>= fun l11 => o ("all_letters", none) l11) >>= fun x10 => itM x10) ρ fun it9 h => loopOf (turnS (stN 2) (L1_sure_pairs fl ms o)) it9 ρ h)
  (seqS (fun ρ => liftE (getV ρ 1) ρ fun d h => .ret d h)
  (fun ρ h => .next ρ h))))))
def S__law_letters (fl ms : List (Str × Str)) : ClS := fun o => (seqS (fun ρ => liftE ((((((getV ρ 0 >>= fun x10 => pure (.int 0) >>= fun y11 => idxM x10 y11) >>= fun x8 => pure [] >>= fun l9 => pure (x8 :: l9)) >>= fun l7 => b_len l7) >>= fun x5 => rng1M x5) >>= fun it3 => M.nox (compIt (turnC (stN 1) (fun ρ => pure true) (fun ρ => ((pure (.int 0) >>= fun x13 => (getV ρ 1 >>= fun x15 => pure [] >>= fun l16 => pure (x15 :: l16)) >>= fun l14 => pure (x13 :: l14)) >>= fun l12 => tupM l12)) (wipeE ρ [1])) it3) >>= fun l4 => newL false l4) >>= fun x1 => (((((getV ρ 0 >>= fun x24 => pure (.int 1) >>= fun y25 => idxM x24 y25) >>= fun x22 => pure [] >>= fun l23 => pure (x22 :: l23)) >>= fun l21 => b_len l21) >>= fun x19 => rng1M x19) >>= fun it17 => M.nox (compIt (turnC (stN 1) (fun ρ => pure true) (fun ρ => ((pure (.int 1) >>= fun x27 => (getV ρ 1 >>= fun x29 => pure [] >>= fun l30 => pure (x29 :: l30)) >>= fun l28 => pure (x27 :: l28)) >>= fun l26 => tupM l26)) (wipeE ρ [1])) it17) >>= fun l18 => newL false l18) >>= fun y2 => binM .Add false x1 y2) ρ fun d h => .ret d h)
  (fun ρ h => .next ρ h))
def S__law_spot (fl ms : List (Str × Str)) : ClS := fun o => (seqS (fun ρ => liftE (((getV ρ 0 >>= fun x9 => enumM x9) >>= fun it2 => M.nox (compIt (turnC (stT [3, 4]) (fun ρ => (getV ρ 4 >>= fun x4 => (getV ρ 1 >>= fun x7 => pure (.int 0) >>= fun y8 => idxM x7 y8) >>= fun y5 => cmpM .Eq x4 y5)) (fun ρ => getV ρ 3) (wipeE ρ [3, 4])) it2) >>= fun l3 => newL false l3) >>= fun d1 => stN 2 d1 ρ) ρ fun ρ h => .next ρ h)
  (seqS (fun ρ => liftE (getV ρ 2 >>= fun x11 => (getV ρ 1 >>= fun x13 => pure (.int 1) >>= fun y14 => idxM x13 y14) >>= fun y12 => idxM x11 y12) ρ fun d h => .ret d h)
  (fun ρ h => .next ρ h)))
def L1__law_low (fl ms : List (Str × Str)) (o : Ora) : Env → AH → RS := (seqS (fun ρ => liftE (((getV ρ 3 >>= fun x12 => ((getV ρ 2 >>= fun x16 => getV ρ 3 >>= fun y17 => binM .Mod false x16 y17) >>= fun x14 => pure [] >>= fun l15 => pure (x14 :: l15)) >>= fun l13 => pure (x12 :: l13)) >>= fun l11 => tupM l11) >>= fun d10 => stT [2, 3] d10 ρ) ρ fun ρ h => .next ρ h)
  (fun ρ h => .next ρ h))
def S__law_low (fl ms : List (Str × Str)) : ClS := fun o => (seqS (fun ρ => liftE (((getV ρ 0 >>= fun x3 => (getV ρ 1 >>= fun x5 => pure [] >>= fun l6 => pure (x5 :: l6)) >>= fun l4 => pure (x3 :: l4)) >>= fun l2 => tupM l2) >>= fun d1 => stT [2, 3] d1 ρ) ρ fun ρ h => .next ρ h)
  (seqS (fun ρ => whileM (fun ρ => (getV ρ 3 >>= fun x7 => pure (.int 0) >>= fun y8 => cmpM .NotEq x7 y8)) (L1__law_low fl ms o) 1000 ρ)
  (seqS (fun ρ => liftE (((getV ρ 0 >>= fun x21 => getV ρ 2 >>= fun y22 => binM .FloorDiv false x21 y22) >>= fun x19 => ((getV ρ 1 >>= fun x25 => getV ρ 2 >>= fun y26 => binM .FloorDiv false x25 y26) >>= fun x23 => pure [] >>= fun l24 => pure (x23 :: l24)) >>= fun l20 => pure (x19 :: l20)) >>= fun l18 => tupM l18) ρ fun d h => .ret d h)
  (fun ρ h => .next ρ h))))
def S_unread (fl ms : List (Str × Str)) : ClS := fun o => (seqS (fun ρ => liftE ((getV ρ 0 >>= fun x2 => pure [] >>= fun l3 => pure (x2 :: l3)) >>= fun l1 => o ("need_mail", none) l1) ρ fun _ h => .next ρ h)
  (seqS (fun ρ => liftE ((((((getV ρ 0 >>= fun x12 => pure (.int 0) >>= fun y13 => idxM x12 y13) >>= fun x10 => pure [] >>= fun l11 => pure (x10 :: l11)) >>= fun l9 => b_len l9) >>= fun x7 => ((getV ρ 0 >>= fun x16 => pure (.int 1) >>= fun y17 => idxM x16 y17) >>= fun x14 => pure (.int 0) >>= fun y15 => b_defM maxF x14 y15) >>= fun y8 => binM .Sub false x7 y8) >>= fun x5 => (((((getV ρ 0 >>= fun x25 => pure (.int 1) >>= fun y26 => idxM x25 y26) >>= fun x23 => pure [] >>= fun l24 => pure (x23 :: l24)) >>= fun l22 => b_len l22) >>= fun x20 => ((getV ρ 0 >>= fun x29 => pure (.int 0) >>= fun y30 => idxM x29 y30) >>= fun x27 => pure (.int 0) >>= fun y28 => b_defM maxF x27 y28) >>= fun y21 => binM .Sub false x20 y21) >>= fun x18 => pure [] >>= fun l19 => pure (x18 :: l19)) >>= fun l6 => pure (x5 :: l6)) >>= fun l4 => tupM l4) ρ fun d h => .ret d h)
  (fun ρ h => .next ρ h)))
def S_sure_standings (fl ms : List (Str × Str)) : ClS := fun o => (seqS (fun ρ => liftE ((getV ρ 0 >>= fun x2 => pure [] >>= fun l3 => pure (x2 :: l3)) >>= fun l1 => o ("need_mail", none) l1) ρ fun _ h => .next ρ h)
  (seqS (fun ρ => liftE ((getV ρ 0 >>= fun x5 => pure [] >>= fun l6 => pure (x5 :: l6)) >>= fun l4 => o ("need_there", none) l4) ρ fun _ h => .next ρ h)
  (seqS (fun ρ => liftE (((getV ρ 0 >>= fun x9 => pure [] >>= fun l10 => pure (x9 :: l10)) >>= fun l8 => o ("passing", none) l8) >>= fun d7 => stN 1 d7 ρ) ρ fun ρ h => .next ρ h)
  (seqS (fun ρ => liftE ((((getV ρ 0 >>= fun x23 => pure [] >>= fun l24 => pure (x23 :: l24)) >>= fun l22 => o ("all_standings", none) l22) >>= fun x21 => itM x21) >>= fun it11 => M.nox (compIt (turnC (stN 2) (fun ρ => ((getV ρ 1 >>= fun x16 => getV ρ 2 >>= fun y17 => idxM x16 y17) >>= fun x13 => ((getV ρ 0 >>= fun x19 => pure [] >>= fun l20 => pure (x19 :: l20)) >>= fun l18 => o ("count_of", none) l18) >>= fun y14 => cmpM .Eq x13 y14)) (fun ρ => getV ρ 2) (wipeE ρ [2])) it11) >>= fun l12 => newL false l12) ρ fun d h => .ret d h)
  (fun ρ h => .next ρ h)))))
def S_leads (fl ms : List (Str × Str)) : ClS := fun o => (seqS (fun ρ => liftE ((getV ρ 0 >>= fun x2 => pure [] >>= fun l3 => pure (x2 :: l3)) >>= fun l1 => o ("need_mail", none) l1) ρ fun _ h => .next ρ h)
  (seqS (fun ρ => liftE ((getV ρ 0 >>= fun x5 => pure [] >>= fun l6 => pure (x5 :: l6)) >>= fun l4 => o ("need_there", none) l4) ρ fun _ h => .next ρ h)
  (seqS (fun ρ => liftE (((getV ρ 0 >>= fun x9 => pure [] >>= fun l10 => pure (x9 :: l10)) >>= fun l8 => o ("passing", none) l8) >>= fun d7 => stN 1 d7 ρ) ρ fun ρ h => .next ρ h)
  (seqS (fun ρ => liftE (((getV ρ 1 >>= fun x19 => itM x19) >>= fun it12 => M.nox (compIt (turnC (stN 3) (fun ρ => ((getV ρ 1 >>= fun x17 => getV ρ 3 >>= fun y18 => idxM x17 y18) >>= fun x14 => pure (.int 0) >>= fun y15 => cmpM .Gt x14 y15)) (fun ρ => ((getV ρ 3 >>= fun x22 => pure (.int 0) >>= fun y23 => idxM x22 y23) >>= fun x20 => (getV ρ 3 >>= fun x24 => pure (.int 1) >>= fun y25 => idxM x24 y25) >>= fun y21 => binM .Sub false x20 y21)) (wipeE ρ [3])) it12) >>= fun l13 => newL false l13) >>= fun d11 => stN 2 d11 ρ) ρ fun ρ h => .next ρ h)
  (seqS (fun ρ => liftE ((((getV ρ 2 >>= fun x30 => pure [] >>= fun l31 => pure (x30 :: l31)) >>= fun l29 => b_max l29) >>= fun x27 => ((((getV ρ 2 >>= fun x36 => pure [] >>= fun l37 => pure (x36 :: l37)) >>= fun l35 => b_min l35) >>= fun x34 => negM x34) >>= fun x32 => pure [] >>= fun l33 => pure (x32 :: l33)) >>= fun l28 => pure (x27 :: l28)) >>= fun l26 => tupM l26) ρ fun d h => .ret d h)
  (fun ρ h => .next ρ h))))))
def S_share_at (fl ms : List (Str × Str)) : ClS := fun o => (seqS (fun ρ => liftE ((getV ρ 0 >>= fun x2 => pure [] >>= fun l3 => pure (x2 :: l3)) >>= fun l1 => o ("need_mail", none) l1) ρ fun _ h => .next ρ h)
  (seqS (fun ρ => liftE ((((getV ρ 1 >>= fun x9 => isiM x9 .tuple >>= fun b10 => pure (.bl b10)) >>= fun x7 => asBool x7) >>= fun b6 => pure (!b6)) >>= fun c5 => if c5 then pure true else (((getV ρ 1 >>= fun x16 => pure [] >>= fun l17 => pure (x16 :: l17)) >>= fun l15 => b_len l15) >>= fun x12 => pure (.int 2) >>= fun y13 => cmpM .NotEq x12 y13)) ρ fun c4 h => if c4 then (seqS (fun ρ => fun h => .exc "BadNumber" ρ h)
    (fun ρ h => .next ρ h)) ρ h else (fun ρ h => .next ρ h) ρ h)
  (seqS (fun ρ => liftE ((((((getV ρ 1 >>= fun x26 => getV ρ 0 >>= fun y27 => zipM x26 y27) >>= fun it24 => M.nox (compIt (turnC (stT [2, 3]) (fun ρ => pure true) (fun ρ => ((getV ρ 2 >>= fun x29 => (pure (.int 0) >>= fun x31 => (((getV ρ 3 >>= fun x36 => pure [] >>= fun l37 => pure (x36 :: l37)) >>= fun l35 => b_len l35) >>= fun x33 => pure [] >>= fun l34 => pure (x33 :: l34)) >>= fun l32 => pure (x31 :: l32)) >>= fun l30 => pure (x29 :: l30)) >>= fun l28 => o ("is_whole", none) l28)) (wipeE ρ [2, 3])) it24) >>= fun l25 => newL false l25) >>= fun x22 => pure [] >>= fun l23 => pure (x22 :: l23)) >>= fun l21 => b_all l21) >>= fun x20 => asBool x20) >>= fun b19 => pure (!b19)) ρ fun c18 h => if c18 then (seqS (fun ρ => fun h => .exc "BadNumber" ρ h)
    (fun ρ h => .next ρ h)) ρ h else (fun ρ h => .next ρ h) ρ h)
  (seqS (fun ρ => liftE ((getV ρ 0 >>= fun x39 => pure [] >>= fun l40 => pure (x39 :: l40)) >>= fun l38 => o ("need_there", none) l38) ρ fun _ h => .next ρ h)
  (seqS (fun ρ => liftE (((((getV ρ 0 >>= fun x47 => pure [] >>= fun l48 => pure (x47 :: l48)) >>= fun l46 => o ("passing", none) l46) >>= fun x44 => getV ρ 1 >>= fun y45 => idxM x44 y45) >>= fun x42 => (((getV ρ 0 >>= fun x52 => pure [] >>= fun l53 => pure (x52 :: l53)) >>= fun l51 => o ("count_of", none) l51) >>= fun x49 => pure [] >>= fun l50 => pure (x49 :: l50)) >>= fun l43 => pure (x42 :: l43)) >>= fun l41 => o ("lowest", none) l41) ρ fun d h => .ret d h)
  (fun ρ h => .next ρ h))))))
def S_is_row (fl ms : List (Str × Str)) : ClS := fun o => (seqS (fun ρ => liftE ((((getV ρ 0 >>= fun x6 => isiM x6 .tuple >>= fun b7 => pure (.bl b7)) >>= fun x4 => asBool x4) >>= fun b3 => pure (!b3)) >>= fun c2 => if c2 then pure true else (((getV ρ 0 >>= fun x13 => pure [] >>= fun l14 => pure (x13 :: l14)) >>= fun l12 => b_len l12) >>= fun x9 => pure (.int 7) >>= fun y10 => cmpM .Gt x9 y10)) ρ fun c1 h => if c1 then (seqS (fun ρ => liftE (pure (.bl false)) ρ fun d h => .ret d h)
    (fun ρ h => .next ρ h)) ρ h else (fun ρ h => .next ρ h) ρ h)
  (seqS (fun ρ => liftE ((((getV ρ 0 >>= fun x20 => itM x20) >>= fun it18 => M.nox (compIt (turnC (stN 1) (fun ρ => pure true) (fun ρ => (((getV ρ 1 >>= fun x24 => pure .non >>= fun y25 => cmpM .Is x24 y25 >>= fun c26 => pure (.bl c26)) >>= fun x22 => asBool x22 >>= fun c23 => if c23 then pure true else (((getV ρ 1 >>= fun x30 => (pure (.int 0) >>= fun x32 => (pure (.int 7) >>= fun x34 => pure [] >>= fun l35 => pure (x34 :: l35)) >>= fun l33 => pure (x32 :: l33)) >>= fun l31 => pure (x30 :: l31)) >>= fun l29 => o ("is_whole", none) l29) >>= fun x27 => asBool x27)) >>= fun b21 => pure (.bl b21))) (wipeE ρ [1])) it18) >>= fun l19 => newL false l19) >>= fun x16 => pure [] >>= fun l17 => pure (x16 :: l17)) >>= fun l15 => b_all l15) ρ fun d h => .ret d h)
  (fun ρ h => .next ρ h)))
def S_is_part (fl ms : List (Str × Str)) : ClS := fun o => (seqS (fun ρ => liftE (((getV ρ 0 >>= fun x5 => isiM x5 .tuple >>= fun b6 => pure (.bl b6)) >>= fun x2 => asBool x2 >>= fun c3 => if c3 then ((((getV ρ 0 >>= fun x13 => pure [] >>= fun l14 => pure (x13 :: l14)) >>= fun l12 => b_len l12) >>= fun x9 => pure (.int 2) >>= fun y10 => cmpM .Eq x9 y10 >>= fun c11 => pure (.bl c11)) >>= fun x7 => asBool x7 >>= fun c8 => if c8 then (((((getV ρ 0 >>= fun x22 => itM x22) >>= fun it20 => M.nox (compIt (turnC (stN 1) (fun ρ => pure true) (fun ρ => ((getV ρ 1 >>= fun x24 => pure [] >>= fun l25 => pure (x24 :: l25)) >>= fun l23 => o ("is_row", none) l23)) (wipeE ρ [1])) it20) >>= fun l21 => newL false l21) >>= fun x18 => pure [] >>= fun l19 => pure (x18 :: l19)) >>= fun l17 => b_all l17) >>= fun x15 => asBool x15) else pure false) else pure false) >>= fun b1 => pure (.bl b1)) ρ fun d h => .ret d h)
  (fun ρ h => .next ρ h))
def S_need_part (fl ms : List (Str × Str)) : ClS := fun o => (seqS (fun ρ => liftE ((((getV ρ 0 >>= fun x5 => pure [] >>= fun l6 => pure (x5 :: l6)) >>= fun l4 => o ("is_part", none) l4) >>= fun x3 => asBool x3) >>= fun b2 => pure (!b2)) ρ fun c1 h => if c1 then (seqS (fun ρ => fun h => .exc "BadPart" ρ h)
    (fun ρ h => .next ρ h)) ρ h else (fun ρ h => .next ρ h) ρ h)
  (fun ρ h => .next ρ h))
def L1_Fits_lets (fl ms : List (Str × Str)) (o : Ora) : Env → AH → RS := (seqS (fun ρ => liftE ((getV ρ 4 >>= fun x7 => pure .non >>= fun y8 => cmpM .IsNot x7 y8) >>= fun c6 => if c6 then ((getV ρ 4 >>= fun x14 => getV ρ 1 >>= fun y15 => cmpM .LtE x14 y15 >>= fun c16 => pure (.bl c16)) >>= fun x11 => (getV ρ 3 >>= fun x17 => getV ρ 2 >>= fun y18 => cmpM .Lt x17 y18 >>= fun c19 => pure (.bl c19)) >>= fun y12 => cmpM .NotEq x11 y12) else pure false) ρ fun c5 h => if c5 then (seqS (fun ρ => liftE (pure (.bl false)) ρ fun d h => .ret d h)
    (fun ρ h => .next ρ h)) ρ h else (fun ρ h => .next ρ h) ρ h)
  (fun ρ h => .next ρ h))
def S_Fits_lets (fl ms : List (Str × Str)) : ClS := fun o => (seqS (fun ρ => liftE ((getV ρ 0 >>= fun x4 => fldM fl x4 "first") >>= fun x2 => enumM x2) ρ fun it1 h => loopOf (turnS (stT [3, 4]) (L1_Fits_lets fl ms o)) it1 ρ h)
  (seqS (fun ρ => liftE (pure (.bl true)) ρ fun d h => .ret d h)
  (fun ρ h => .next ρ h)))
def L1_Fits_nexts (fl ms : List (Str × Str)) (o : Ora) : Env → AH → RS := (seqS (fun ρ => liftE ((getV ρ 0 >>= fun x14 => methM ms o "lets" x14 (getV ρ 1 >>= fun x15 => (getV ρ 5 >>= fun x17 => pure [] >>= fun l18 => pure (x17 :: l18)) >>= fun l16 => pure (x15 :: l16))) >>= fun x13 => asBool x13) ρ fun c12 h => if c12 then (seqS (fun ρ => liftE (((getV ρ 0 >>= fun x22 => fldM fl x22 "second") >>= fun x20 => getV ρ 1 >>= fun y21 => idxM x20 y21) >>= fun d19 => stN 6 d19 ρ) ρ fun ρ h => .next ρ h)
    (seqS (fun ρ => liftE (((getV ρ 6 >>= fun x25 => pure .non >>= fun y26 => cmpM .Is x25 y26) >>= fun c24 => if c24 then (getV ρ 3 >>= fun x29 => (getV ρ 5 >>= fun x31 => pure (.int 1) >>= fun y32 => binM .Add false x31 y32) >>= fun y30 => lstRg2 false x29 y30) else ((getV ρ 6 >>= fun x34 => pure [] >>= fun l35 => pure (x34 :: l35)) >>= fun l33 => dispM false l33)) >>= fun d23 => stN 7 d23 ρ) ρ fun ρ h => .next ρ h)
    (seqS (fun ρ => liftE ((getV ρ 4 >>= fun x37 => ((getV ρ 7 >>= fun x45 => itM x45) >>= fun it39 => M.nox (compIt (turnC (stN 8) (fun ρ => (getV ρ 3 >>= fun x41 => getV ρ 8 >>= fun y42 => cmpM .LtE x41 y42 >>= fun c43 => if c43 then (getV ρ 5 >>= fun z44 => cmpM .LtE y42 z44) else pure false)) (fun ρ => ((getV ρ 5 >>= fun x47 => (getV ρ 8 >>= fun x49 => pure [] >>= fun l50 => pure (x49 :: l50)) >>= fun l48 => pure (x47 :: l48)) >>= fun l46 => tupM l46)) (wipeE ρ [8])) it39) >>= fun l40 => newL false l40) >>= fun y38 => binM .Add false x37 y38) >>= fun d36 => stN 4 d36 ρ) ρ fun ρ h => .next ρ h)
    (fun ρ h => .next ρ h)))) ρ h else (fun ρ h => .next ρ h) ρ h)
  (fun ρ h => .next ρ h))
def S_Fits_nexts (fl ms : List (Str × Str)) : ClS := fun o => (seqS (fun ρ => liftE ((pure [] >>= fun l2 => dispM false l2) >>= fun d1 => stN 4 d1 ρ) ρ fun ρ h => .next ρ h)
  (seqS (fun ρ => liftE (getV ρ 2 >>= fun x4 => ((((getV ρ 0 >>= fun x11 => fldM fl x11 "first") >>= fun x9 => pure [] >>= fun l10 => pure (x9 :: l10)) >>= fun l8 => b_len l8) >>= fun x6 => pure (.int 1) >>= fun y7 => binM .Add false x6 y7) >>= fun y5 => rng2M x4 y5) ρ fun it3 h => loopOf (turnS (stN 5) (L1_Fits_nexts fl ms o)) it3 ρ h)
  (seqS (fun ρ => liftE (getV ρ 4) ρ fun d h => .ret d h)
  (fun ρ h => .next ρ h))))
def S_Fits_count (fl ms : List (Str × Str)) : ClS := fun o => (seqS (fun ρ => liftE (getV ρ 1 >>= fun x2 => (((getV ρ 0 >>= fun x8 => fldM fl x8 "second") >>= fun x6 => pure [] >>= fun l7 => pure (x6 :: l7)) >>= fun l5 => b_len l5) >>= fun y3 => cmpM .Eq x2 y3) ρ fun c1 h => if c1 then (seqS (fun ρ => liftE (pure (.int 1)) ρ fun d h => .ret d h)
    (fun ρ h => .next ρ h)) ρ h else (fun ρ h => .next ρ h) ρ h)
  (seqS (fun ρ => liftE (((getV ρ 1 >>= fun x14 => (getV ρ 2 >>= fun x16 => (getV ρ 3 >>= fun x18 => pure [] >>= fun l19 => pure (x18 :: l19)) >>= fun l17 => pure (x16 :: l17)) >>= fun l15 => pure (x14 :: l15)) >>= fun l13 => tupM l13) >>= fun x10 => (getV ρ 0 >>= fun x20 => fldM fl x20 "known") >>= fun y11 => cmpM .NotIn x10 y11) ρ fun c9 h => if c9 then (seqS (fun ρ => liftE ((getV ρ 0 >>= fun x22 => methM ms o "nexts" x22 (getV ρ 1 >>= fun x23 => (getV ρ 2 >>= fun x25 => (getV ρ 3 >>= fun x27 => pure [] >>= fun l28 => pure (x27 :: l28)) >>= fun l26 => pure (x25 :: l26)) >>= fun l24 => pure (x23 :: l24))) >>= fun d21 => stN 4 d21 ρ) ρ fun ρ h => .next ρ h)
    (seqS (fun ρ => liftE (((((getV ρ 4 >>= fun x37 => itM x37) >>= fun it35 => M.nox (compIt (turnC (stT [5, 6]) (fun ρ => pure true) (fun ρ => (getV ρ 0 >>= fun x38 => methM ms o "count" x38 ((getV ρ 1 >>= fun x41 => pure (.int 1) >>= fun y42 => binM .Add false x41 y42) >>= fun x39 => (getV ρ 5 >>= fun x43 => (getV ρ 6 >>= fun x45 => pure [] >>= fun l46 => pure (x45 :: l46)) >>= fun l44 => pure (x43 :: l44)) >>= fun l40 => pure (x39 :: l40)))) (wipeE ρ [5, 6])) it35) >>= fun l36 => newL false l36) >>= fun x33 => pure [] >>= fun l34 => pure (x33 :: l34)) >>= fun l32 => b_sum l32) >>= fun v29 => (getV ρ 0 >>= fun x47 => fldM fl x47 "known") >>= fun x30 => ((getV ρ 1 >>= fun x49 => (getV ρ 2 >>= fun x51 => (getV ρ 3 >>= fun x53 => pure [] >>= fun l54 => pure (x53 :: l54)) >>= fun l52 => pure (x51 :: l52)) >>= fun l50 => pure (x49 :: l50)) >>= fun l48 => tupM l48) >>= fun y31 => storeM x30 y31 v29) ρ fun _ h => .next ρ h)
    (fun ρ h => .next ρ h))) ρ h else (fun ρ h => .next ρ h) ρ h)
  (seqS (fun ρ => liftE ((getV ρ 0 >>= fun x57 => fldM fl x57 "known") >>= fun x55 => ((getV ρ 1 >>= fun x59 => (getV ρ 2 >>= fun x61 => (getV ρ 3 >>= fun x63 => pure [] >>= fun l64 => pure (x63 :: l64)) >>= fun l62 => pure (x61 :: l62)) >>= fun l60 => pure (x59 :: l60)) >>= fun l58 => tupM l58) >>= fun y56 => idxM x55 y56) ρ fun d h => .ret d h)
  (fun ρ h => .next ρ h))))
def S_count_fits (fl ms : List (Str × Str)) : ClS := fun o => (seqS (fun ρ => liftE ((((getV ρ 0 >>= fun x5 => pure (.int 1) >>= fun y6 => idxM x5 y6) >>= fun x3 => pure [] >>= fun l4 => pure (x3 :: l4)) >>= fun l2 => b_len l2) >>= fun d1 => stN 1 d1 ρ) ρ fun ρ h => .next ρ h)
  (seqS (fun ρ => liftE ((((((getV ρ 0 >>= fun x15 => pure (.int 0) >>= fun y16 => idxM x15 y16) >>= fun x14 => itM x14) >>= fun it12 => M.nox (compIt (turnC (stN 2) (fun ρ => pure true) (fun ρ => (((getV ρ 2 >>= fun x20 => pure .non >>= fun y21 => cmpM .IsNot x20 y21 >>= fun c22 => pure (.bl c22)) >>= fun x18 => asBool x18 >>= fun c19 => if c19 then ((getV ρ 2 >>= fun x25 => getV ρ 1 >>= fun y26 => cmpM .Gt x25 y26 >>= fun c27 => pure (.bl c27)) >>= fun x23 => asBool x23) else pure false) >>= fun b17 => pure (.bl b17))) (wipeE ρ [2])) it12) >>= fun l13 => newL false l13) >>= fun x10 => pure [] >>= fun l11 => pure (x10 :: l11)) >>= fun l9 => b_any l9) >>= fun x8 => asBool x8) ρ fun c7 h => if c7 then (seqS (fun ρ => liftE (pure (.int 0)) ρ fun d h => .ret d h)
    (fun ρ h => .next ρ h)) ρ h else (fun ρ h => .next ρ h) ρ h)
  (seqS (fun ρ => liftE (((getV ρ 0 >>= fun x30 => pure [] >>= fun l31 => pure (x30 :: l31)) >>= fun l29 => makeM o "Fits" l29) >>= fun x28 => methM ms o "count" x28 (pure (.int 0) >>= fun x32 => (pure (.int 0) >>= fun x34 => (pure (.int 0) >>= fun x36 => pure [] >>= fun l37 => pure (x36 :: l37)) >>= fun l35 => pure (x34 :: l35)) >>= fun l33 => pure (x32 :: l33))) ρ fun d h => .ret d h)
  (fun ρ h => .next ρ h))))
def S_how_many_fit (fl ms : List (Str × Str)) : ClS := fun o => (seqS (fun ρ => liftE ((getV ρ 0 >>= fun x2 => pure [] >>= fun l3 => pure (x2 :: l3)) >>= fun l1 => o ("need_part", none) l1) ρ fun _ h => .next ρ h)
  (seqS (fun ρ => liftE ((getV ρ 0 >>= fun x5 => pure [] >>= fun l6 => pure (x5 :: l6)) >>= fun l4 => o ("count_fits", none) l4) ρ fun d h => .ret d h)
  (fun ρ h => .next ρ h)))
def S_told_at (fl ms : List (Str × Str)) : ClS := fun o => (seqS (fun ρ => liftE (getV ρ 1 >>= fun d1 => stT [4, 5] d1 ρ) ρ fun ρ h => .next ρ h)
  (seqS (fun ρ => liftE (((((getV ρ 0 >>= fun x10 => getV ρ 4 >>= fun y11 => idxM x10 y11) >>= fun x7 => pure none >>= fun y8 => (getV ρ 5 >>= fun x12 => partM x12) >>= fun z9 => sliceM false x7 y8 z9) >>= fun x5 => ((getV ρ 2 >>= fun x14 => pure [] >>= fun l15 => pure (x14 :: l15)) >>= fun l13 => tupM l13) >>= fun y6 => binM .Add false x5 y6) >>= fun x3 => ((getV ρ 0 >>= fun x19 => getV ρ 4 >>= fun y20 => idxM x19 y20) >>= fun x16 => ((getV ρ 5 >>= fun x22 => pure (.int 1) >>= fun y23 => binM .Add false x22 y23) >>= fun x21 => partM x21) >>= fun y17 => pure none >>= fun z18 => sliceM false x16 y17 z18) >>= fun y4 => binM .Add false x3 y4) >>= fun d2 => stN 3 d2 ρ) ρ fun ρ h => .next ρ h)
  (seqS (fun ρ => liftE ((getV ρ 4 >>= fun x25 => pure (.int 0) >>= fun y26 => cmpM .Eq x25 y26) >>= fun c24 => if c24 then ((getV ρ 3 >>= fun x29 => ((getV ρ 0 >>= fun x33 => pure (.int 1) >>= fun y34 => idxM x33 y34) >>= fun x31 => pure [] >>= fun l32 => pure (x31 :: l32)) >>= fun l30 => pure (x29 :: l30)) >>= fun l28 => tupM l28) else (((getV ρ 0 >>= fun x38 => pure (.int 0) >>= fun y39 => idxM x38 y39) >>= fun x36 => (getV ρ 3 >>= fun x40 => pure [] >>= fun l41 => pure (x40 :: l41)) >>= fun l37 => pure (x36 :: l37)) >>= fun l35 => tupM l35)) ρ fun d h => .ret d h)
  (fun ρ h => .next ρ h))))
def S_numbers_of (fl ms : List (Str × Str)) : ClS := fun o => (seqS (fun ρ => liftE (((getV ρ 0 >>= fun x4 => (getV ρ 1 >>= fun x6 => pure (.int 0) >>= fun y7 => idxM x6 y7) >>= fun y5 => idxM x4 y5) >>= fun x2 => (getV ρ 1 >>= fun x8 => pure (.int 1) >>= fun y9 => idxM x8 y9) >>= fun y3 => idxM x2 y3) >>= fun d1 => stN 2 d1 ρ) ρ fun ρ h => .next ρ h)
  (seqS (fun ρ => liftE (((getV ρ 2 >>= fun x12 => pure .non >>= fun y13 => cmpM .Is x12 y13) >>= fun c11 => if c11 then ((pure (.int 7) >>= fun x18 => pure (.int 1) >>= fun y19 => binM .Add false x18 y19) >>= fun x16 => lstRg false x16) else ((getV ρ 2 >>= fun x21 => pure [] >>= fun l22 => pure (x21 :: l22)) >>= fun l20 => dispM false l20)) >>= fun d10 => stN 3 d10 ρ) ρ fun ρ h => .next ρ h)
  (seqS (fun ρ => liftE ((getV ρ 3 >>= fun x38 => itM x38) >>= fun it23 => M.nox (compIt (turnC (stN 4) (fun ρ => (((((getV ρ 0 >>= fun x32 => (getV ρ 1 >>= fun x34 => (getV ρ 4 >>= fun x36 => pure [] >>= fun l37 => pure (x36 :: l37)) >>= fun l35 => pure (x34 :: l35)) >>= fun l33 => pure (x32 :: l33)) >>= fun l31 => o ("told_at", none) l31) >>= fun x29 => pure [] >>= fun l30 => pure (x29 :: l30)) >>= fun l28 => o ("count_fits", none) l28) >>= fun x25 => pure (.int 0) >>= fun y26 => cmpM .Gt x25 y26)) (fun ρ => getV ρ 4) (wipeE ρ [4])) it23) >>= fun l24 => newL false l24) ρ fun d h => .ret d h)
  (fun ρ h => .next ρ h))))
def L2_first_fit (fl ms : List (Str × Str)) (o : Ora) : Env → AH → RS := (seqS (fun ρ => liftE (((getV ρ 0 >>= fun x28 => (((getV ρ 1 >>= fun x33 => (getV ρ 2 >>= fun x35 => pure [] >>= fun l36 => pure (x35 :: l36)) >>= fun l34 => pure (x33 :: l34)) >>= fun l32 => tupM l32) >>= fun x30 => ((((getV ρ 0 >>= fun x42 => (((getV ρ 1 >>= fun x47 => (getV ρ 2 >>= fun x49 => pure [] >>= fun l50 => pure (x49 :: l50)) >>= fun l48 => pure (x47 :: l48)) >>= fun l46 => tupM l46) >>= fun x44 => pure [] >>= fun l45 => pure (x44 :: l45)) >>= fun l43 => pure (x42 :: l43)) >>= fun l41 => o ("numbers_of", none) l41) >>= fun x39 => pure (.int 0) >>= fun y40 => idxM x39 y40) >>= fun x37 => pure [] >>= fun l38 => pure (x37 :: l38)) >>= fun l31 => pure (x30 :: l31)) >>= fun l29 => pure (x28 :: l29)) >>= fun l27 => o ("told_at", none) l27) >>= fun d26 => stN 0 d26 ρ) ρ fun ρ h => .next ρ h)
  (fun ρ h => .next ρ h))
def L1_first_fit (fl ms : List (Str × Str)) (o : Ora) : Env → AH → RS := (seqS (fun ρ => liftE ((((getV ρ 0 >>= fun x24 => getV ρ 1 >>= fun y25 => idxM x24 y25) >>= fun x22 => pure [] >>= fun l23 => pure (x22 :: l23)) >>= fun l21 => b_len l21) >>= fun x19 => rng1M x19) ρ fun it18 h => loopOf (turnS (stN 2) (L2_first_fit fl ms o)) it18 ρ h)
  (fun ρ h => .next ρ h))
def S_first_fit (fl ms : List (Str × Str)) : ClS := fun o => (seqS (fun ρ => liftE ((getV ρ 0 >>= fun x2 => pure [] >>= fun l3 => pure (x2 :: l3)) >>= fun l1 => o ("need_part", none) l1) ρ fun _ h => .next ρ h)
  (seqS (fun ρ => liftE (((getV ρ 0 >>= fun x9 => pure [] >>= fun l10 => pure (x9 :: l10)) >>= fun l8 => o ("count_fits", none) l8) >>= fun x5 => pure (.int 0) >>= fun y6 => cmpM .Eq x5 y6) ρ fun c4 h => if c4 then (seqS (fun ρ => liftE (pure .non) ρ fun d h => .ret d h)
    (fun ρ h => .next ρ h)) ρ h else (fun ρ h => .next ρ h) ρ h)
  (seqS (fun ρ => liftE (((pure (.int 0) >>= fun x14 => (pure (.int 1) >>= fun x16 => pure [] >>= fun l17 => pure (x16 :: l17)) >>= fun l15 => pure (x14 :: l15)) >>= fun l13 => tupM l13) >>= fun x12 => itM x12) ρ fun it11 h => loopOf (turnS (stN 1) (L1_first_fit fl ms o)) it11 ρ h)
  (seqS (fun ρ => liftE (getV ρ 0) ρ fun d h => .ret d h)
  (fun ρ h => .next ρ h)))))
def S_between (fl ms : List (Str × Str)) : ClS := fun o => (seqS (fun ρ => liftE ((getV ρ 0 >>= fun x2 => pure [] >>= fun l3 => pure (x2 :: l3)) >>= fun l1 => o ("need_part", none) l1) ρ fun _ h => .next ρ h)
  (seqS (fun ρ => liftE ((getV ρ 0 >>= fun x5 => (getV ρ 1 >>= fun x7 => pure [] >>= fun l8 => pure (x7 :: l8)) >>= fun l6 => pure (x5 :: l6)) >>= fun l4 => o ("need_letter", none) l4) ρ fun _ h => .next ρ h)
  (seqS (fun ρ => liftE (((getV ρ 0 >>= fun x11 => (getV ρ 1 >>= fun x13 => pure [] >>= fun l14 => pure (x13 :: l14)) >>= fun l12 => pure (x11 :: l12)) >>= fun l10 => o ("numbers_of", none) l10) >>= fun d9 => stN 2 d9 ρ) ρ fun ρ h => .next ρ h)
  (seqS (fun ρ => liftE (getV ρ 2 >>= fun x16 => (pure [] >>= fun l19 => dispM false l19) >>= fun y17 => cmpM .Eq x16 y17) ρ fun c15 h => if c15 then (seqS (fun ρ => fun h => .exc "Nothing" ρ h)
    (fun ρ h => .next ρ h)) ρ h else (fun ρ h => .next ρ h) ρ h)
  (seqS (fun ρ => liftE (((getV ρ 2 >>= fun x23 => pure (.int 0) >>= fun y24 => idxM x23 y24) >>= fun x21 => ((getV ρ 2 >>= fun x27 => (pure (.int 1) >>= fun x29 => negM x29) >>= fun y28 => idxM x27 y28) >>= fun x25 => pure [] >>= fun l26 => pure (x25 :: l26)) >>= fun l22 => pure (x21 :: l22)) >>= fun l20 => tupM l20) ρ fun d h => .ret d h)
  (fun ρ h => .next ρ h))))))
def L2__law_bundles (fl ms : List (Str × Str)) (o : Ora) : Env → AH → RS := (seqS (fun ρ => liftE ((getV ρ 4 >>= fun x14 => ((((getV ρ 5 >>= fun x21 => (pure [] >>= fun l24 => tupM l24) >>= fun y22 => cmpM .NotEq x21 y22) >>= fun c20 => if c20 then (getV ρ 5 >>= fun x25 => (pure (.int 1) >>= fun x27 => negM x27) >>= fun y26 => idxM x25 y26) else pure (.int 0)) >>= fun x18 => (getV ρ 1 >>= fun x28 => pure (.int 1) >>= fun y29 => binM .Add false x28 y29) >>= fun y19 => rng2M x18 y19) >>= fun it16 => M.nox (compIt (turnC (stN 6) (fun ρ => pure true) (fun ρ => (getV ρ 5 >>= fun x30 => ((getV ρ 6 >>= fun x33 => pure [] >>= fun l34 => pure (x33 :: l34)) >>= fun l32 => tupM l32) >>= fun y31 => binM .Add false x30 y31)) (wipeE ρ [6])) it16) >>= fun l17 => newL false l17) >>= fun y15 => binM .Add false x14 y15) >>= fun d13 => stN 4 d13 ρ) ρ fun ρ h => .next ρ h)
  (fun ρ h => .next ρ h))
def L1__law_bundles (fl ms : List (Str × Str)) (o : Ora) : Env → AH → RS := (seqS (fun ρ => liftE ((pure [] >>= fun l10 => dispM false l10) >>= fun d9 => stN 4 d9 ρ) ρ fun ρ h => .next ρ h)
  (seqS (fun ρ => liftE (getV ρ 2 >>= fun x12 => itM x12) ρ fun it11 h => loopOf (turnS (stN 5) (L2__law_bundles fl ms o)) it11 ρ h)
  (seqS (fun ρ => liftE (getV ρ 4 >>= fun d35 => stN 2 d35 ρ) ρ fun ρ h => .next ρ h)
  (fun ρ h => .next ρ h))))
def S__law_bundles (fl ms : List (Str × Str)) : ClS := fun o => (seqS (fun ρ => liftE ((((pure [] >>= fun l5 => tupM l5) >>= fun x3 => pure [] >>= fun l4 => pure (x3 :: l4)) >>= fun l2 => dispM false l2) >>= fun d1 => stN 2 d1 ρ) ρ fun ρ h => .next ρ h)
  (seqS (fun ρ => liftE (getV ρ 0 >>= fun x7 => rng1M x7) ρ fun it6 h => loopOf (turnS (stN 3) (L1__law_bundles fl ms o)) it6 ρ h)
  (seqS (fun ρ => liftE (getV ρ 2) ρ fun d h => .ret d h)
  (fun ρ h => .next ρ h))))
def L1__law_is_free (fl ms : List (Str × Str)) (o : Ora) : Env → AH → RS := (seqS (fun ρ => liftE (((getV ρ 2 >>= fun x19 => rng1M x19) >>= fun it10 => M.nox (compIt (turnC (stN 3) (fun ρ => (((getV ρ 0 >>= fun x17 => pure (.int 1) >>= fun y18 => idxM x17 y18) >>= fun x15 => getV ρ 3 >>= fun y16 => idxM x15 y16) >>= fun x12 => getV ρ 1 >>= fun y13 => cmpM .Gt x12 y13)) (fun ρ => getV ρ 3) (wipeE ρ [3])) it10) >>= fun l11 => newL false l11) >>= fun x7 => (pure [] >>= fun l21 => dispM false l21) >>= fun y8 => cmpM .NotEq x7 y8) ρ fun c6 h => if c6 then (seqS (fun ρ => liftE (pure (.bl false)) ρ fun d h => .ret d h)
    (fun ρ h => .next ρ h)) ρ h else (fun ρ h => .next ρ h) ρ h)
  (fun ρ h => .next ρ h))
def S__law_is_free (fl ms : List (Str × Str)) : ClS := fun o => (seqS (fun ρ => liftE ((getV ρ 0 >>= fun x4 => pure (.int 0) >>= fun y5 => idxM x4 y5) >>= fun x2 => enumM x2) ρ fun it1 h => loopOf (turnS (stT [1, 2]) (L1__law_is_free fl ms o)) it1 ρ h)
  (seqS (fun ρ => liftE (pure (.bl true)) ρ fun d h => .ret d h)
  (fun ρ h => .next ρ h)))
def L2__law_all_free (fl ms : List (Str × Str)) (o : Ora) : Env → AH → RS := (seqS (fun ρ => liftE (((((getV ρ 3 >>= fun x23 => (getV ρ 4 >>= fun x25 => pure [] >>= fun l26 => pure (x25 :: l26)) >>= fun l24 => pure (x23 :: l24)) >>= fun l22 => tupM l22) >>= fun x20 => pure [] >>= fun l21 => pure (x20 :: l21)) >>= fun l19 => o ("_law_is_free", none) l19) >>= fun x18 => asBool x18) ρ fun c17 h => if c17 then (seqS (fun ρ => liftE (getV ρ 2 >>= fun x27 => methM ms o "append" x27 (((getV ρ 3 >>= fun x31 => (getV ρ 4 >>= fun x33 => pure [] >>= fun l34 => pure (x33 :: l34)) >>= fun l32 => pure (x31 :: l32)) >>= fun l30 => tupM l30) >>= fun x28 => pure [] >>= fun l29 => pure (x28 :: l29))) ρ fun _ h => .next ρ h)
    (fun ρ h => .next ρ h)) ρ h else (fun ρ h => .next ρ h) ρ h)
  (fun ρ h => .next ρ h))
def L1__law_all_free (fl ms : List (Str × Str)) (o : Ora) : Env → AH → RS := (seqS (fun ρ => liftE (((getV ρ 1 >>= fun x13 => (getV ρ 0 >>= fun x15 => pure [] >>= fun l16 => pure (x15 :: l16)) >>= fun l14 => pure (x13 :: l14)) >>= fun l12 => o ("_law_bundles", none) l12) >>= fun x11 => itM x11) ρ fun it10 h => loopOf (turnS (stN 4) (L2__law_all_free fl ms o)) it10 ρ h)
  (fun ρ h => .next ρ h))
def S__law_all_free (fl ms : List (Str × Str)) : ClS := fun o => (seqS (fun ρ => liftE ((pure [] >>= fun l2 => dispM true l2) >>= fun d1 => stN 2 d1 ρ) ρ fun ρ h => .next ρ h)
  (seqS (fun ρ => liftE (((getV ρ 0 >>= fun x6 => (getV ρ 1 >>= fun x8 => pure [] >>= fun l9 => pure (x8 :: l9)) >>= fun l7 => pure (x6 :: l7)) >>= fun l5 => o ("_law_bundles", none) l5) >>= fun x4 => itM x4) ρ fun it3 h => loopOf (turnS (stN 3) (L1__law_all_free fl ms o)) it3 ρ h)
  (seqS (fun ρ => liftE (getV ρ 2) ρ fun d h => .ret d h)
  (fun ρ h => .next ρ h))))
def L1__law_fits (fl ms : List (Str × Str)) (o : Ora) : Env → AH → RS := (seqS (fun ρ => liftE (((getV ρ 2 >>= fun x18 => getV ρ 3 >>= fun y19 => zipM x18 y19) >>= fun it8 => M.nox (compIt (turnC (stT [4, 5]) (fun ρ => ((getV ρ 4 >>= fun x11 => pure .non >>= fun y12 => cmpM .IsNot x11 y12) >>= fun c10 => if c10 then (getV ρ 4 >>= fun x15 => getV ρ 5 >>= fun y16 => cmpM .NotEq x15 y16) else pure false)) (fun ρ => pure (.int 1)) (wipeE ρ [4, 5])) it8) >>= fun l9 => newL false l9) >>= fun x5 => (pure [] >>= fun l20 => dispM false l20) >>= fun y6 => cmpM .NotEq x5 y6) ρ fun c4 h => if c4 then (seqS (fun ρ => liftE (pure (.bl false)) ρ fun d h => .ret d h)
    (fun ρ h => .next ρ h)) ρ h else (fun ρ h => .next ρ h) ρ h)
  (fun ρ h => .next ρ h))
def S__law_fits (fl ms : List (Str × Str)) : ClS := fun o => (seqS (fun ρ => liftE (getV ρ 0 >>= fun x2 => getV ρ 1 >>= fun y3 => zipM x2 y3) ρ fun it1 h => loopOf (turnS (stT [2, 3]) (L1__law_fits fl ms o)) it1 ρ h)
  (seqS (fun ρ => liftE (pure (.bl true)) ρ fun d h => .ret d h)
  (fun ρ h => .next ρ h)))
def L1__law_parts_refused (fl ms : List (Str × Str)) (o : Ora) : Env → AH → RS := (seqS (fun ρ => liftE (((toldM ((getV ρ 2 >>= fun x85 => pure [] >>= fun l86 => pure (x85 :: l86)) >>= fun l84 => o ("how_many_fit", none) l84) >>= fun x82 => pure [] >>= fun l83 => pure (x82 :: l83)) >>= fun l81 => dispM true l81) >>= fun d80 => stN 3 d80 ρ) ρ fun ρ h => .next ρ h)
  (seqS (fun ρ => liftE (getV ρ 3 >>= fun x87 => methM ms o "append" x87 (toldM ((getV ρ 2 >>= fun x91 => pure [] >>= fun l92 => pure (x91 :: l92)) >>= fun l90 => o ("first_fit", none) l90) >>= fun x88 => pure [] >>= fun l89 => pure (x88 :: l89))) ρ fun _ h => .next ρ h)
  (seqS (fun ρ => liftE (getV ρ 3 >>= fun x93 => methM ms o "append" x93 (toldM ((getV ρ 2 >>= fun x97 => (pure .non >>= fun x99 => pure [] >>= fun l100 => pure (x99 :: l100)) >>= fun l98 => pure (x97 :: l98)) >>= fun l96 => o ("between", none) l96) >>= fun x94 => pure [] >>= fun l95 => pure (x94 :: l95))) ρ fun _ h => .next ρ h)
  (seqS (fun ρ => liftE ((((getV ρ 2 >>= fun x107 => pure [] >>= fun l108 => pure (x107 :: l108)) >>= fun l106 => o ("is_part", none) l106) >>= fun x103 => pure (.bl false) >>= fun y104 => cmpM .IsNot x103 y104) >>= fun c102 => if c102 then pure true else (getV ρ 3 >>= fun x110 => (((((pure (.str "refused") >>= fun x119 => (pure (.str "BadPart") >>= fun x121 => pure [] >>= fun l122 => pure (x121 :: l122)) >>= fun l120 => pure (x119 :: l120)) >>= fun l118 => tupM l118) >>= fun x116 => pure [] >>= fun l117 => pure (x116 :: l117)) >>= fun l115 => dispM false l115) >>= fun x113 => pure (.int 3) >>= fun y114 => binM .Mult false x113 y114) >>= fun y111 => cmpM .NotEq x110 y111)) ρ fun c101 h => if c101 then (seqS (fun ρ => liftE (pure (.bl false)) ρ fun d h => .ret d h)
    (fun ρ h => .next ρ h)) ρ h else (fun ρ h => .next ρ h) ρ h)
  (fun ρ h => .next ρ h)))))
def L2__law_parts_refused (fl ms : List (Str × Str)) (o : Ora) : Env → AH → RS := (seqS (fun ρ => liftE (toldM ((getV ρ 0 >>= fun x160 => (getV ρ 2 >>= fun x162 => pure [] >>= fun l163 => pure (x162 :: l163)) >>= fun l161 => pure (x160 :: l161)) >>= fun l159 => o ("between", none) l159) >>= fun x156 => ((pure (.str "refused") >>= fun x165 => (pure (.str "BadLetter") >>= fun x167 => pure [] >>= fun l168 => pure (x167 :: l168)) >>= fun l166 => pure (x165 :: l166)) >>= fun l164 => tupM l164) >>= fun y157 => cmpM .NotEq x156 y157) ρ fun c155 h => if c155 then (seqS (fun ρ => liftE (pure (.bl false)) ρ fun d h => .ret d h)
    (fun ρ h => .next ρ h)) ρ h else (fun ρ h => .next ρ h) ρ h)
  (fun ρ h => .next ρ h))
def S__law_parts_refused (fl ms : List (Str × Str)) : ClS := fun o => (seqS (fun ρ => liftE (((pure .non >>= fun x3 => (pure (.int 5) >>= fun x5 => ((pure [] >>= fun l9 => tupM l9) >>= fun x7 => ((((getV ρ 0 >>= fun x15 => pure (.int 0) >>= fun y16 => idxM x15 y16) >>= fun x13 => pure [] >>= fun l14 => pure (x13 :: l14)) >>= fun l12 => tupM l12) >>= fun x10 => (((getV ρ 0 >>= fun x20 => pure [] >>= fun l21 => pure (x20 :: l21)) >>= fun l19 => b_list false l19) >>= fun x17 => ((((pure [] >>= fun l27 => dispM false l27) >>= fun x25 => ((pure [] >>= fun l30 => tupM l30) >>= fun x28 => pure [] >>= fun l29 => pure (x28 :: l29)) >>= fun l26 => pure (x25 :: l26)) >>= fun l24 => tupM l24) >>= fun x22 => (((((pure (.int 8) >>= fun x37 => pure [] >>= fun l38 => pure (x37 :: l38)) >>= fun l36 => tupM l36) >>= fun x34 => ((pure [] >>= fun l41 => tupM l41) >>= fun x39 => pure [] >>= fun l40 => pure (x39 :: l40)) >>= fun l35 => pure (x34 :: l35)) >>= fun l33 => tupM l33) >>= fun x31 => (((((pure (.bl true) >>= fun x48 => pure [] >>= fun l49 => pure (x48 :: l49)) >>= fun l47 => tupM l47) >>= fun x45 => ((pure [] >>= fun l52 => tupM l52) >>= fun x50 => pure [] >>= fun l51 => pure (x50 :: l51)) >>= fun l46 => pure (x45 :: l46)) >>= fun l44 => tupM l44) >>= fun x42 => pure [] >>= fun l43 => pure (x42 :: l43)) >>= fun l32 => pure (x31 :: l32)) >>= fun l23 => pure (x22 :: l23)) >>= fun l18 => pure (x17 :: l18)) >>= fun l11 => pure (x10 :: l11)) >>= fun l8 => pure (x7 :: l8)) >>= fun l6 => pure (x5 :: l6)) >>= fun l4 => pure (x3 :: l4)) >>= fun l2 => dispM false l2) >>= fun d1 => stN 1 d1 ρ) ρ fun ρ h => .next ρ h)
  (seqS (fun ρ => liftE ((getV ρ 1 >>= fun x54 => (((((((pure (.int 0) >>= fun x65 => pure [] >>= fun l66 => pure (x65 :: l66)) >>= fun l64 => tupM l64) >>= fun x62 => pure (.int 8) >>= fun y63 => binM .Mult false x62 y63) >>= fun x60 => ((pure [] >>= fun l69 => tupM l69) >>= fun x67 => pure [] >>= fun l68 => pure (x67 :: l68)) >>= fun l61 => pure (x60 :: l61)) >>= fun l59 => tupM l59) >>= fun x57 => ((getV ρ 0 >>= fun x72 => (((pure [] >>= fun l77 => tupM l77) >>= fun x75 => pure [] >>= fun l76 => pure (x75 :: l76)) >>= fun l74 => tupM l74) >>= fun y73 => binM .Add false x72 y73) >>= fun x70 => pure [] >>= fun l71 => pure (x70 :: l71)) >>= fun l58 => pure (x57 :: l58)) >>= fun l56 => dispM false l56) >>= fun y55 => binM .Add false x54 y55) >>= fun d53 => stN 1 d53 ρ) ρ fun ρ h => .next ρ h)
  (seqS (fun ρ => liftE (getV ρ 1 >>= fun x79 => itM x79) ρ fun it78 h => loopOf (turnS (stN 2) (L1__law_parts_refused fl ms o)) it78 ρ h)
  (seqS (fun ρ => liftE (((pure .non >>= fun x126 => (((pure (.int 2) >>= fun x131 => (pure (.int 0) >>= fun x133 => pure [] >>= fun l134 => pure (x133 :: l134)) >>= fun l132 => pure (x131 :: l132)) >>= fun l130 => tupM l130) >>= fun x128 => (((pure (.int 0) >>= fun x138 => ((((getV ρ 0 >>= fun x145 => pure (.int 0) >>= fun y146 => idxM x145 y146) >>= fun x143 => pure [] >>= fun l144 => pure (x143 :: l144)) >>= fun l142 => b_len l142) >>= fun x140 => pure [] >>= fun l141 => pure (x140 :: l141)) >>= fun l139 => pure (x138 :: l139)) >>= fun l137 => tupM l137) >>= fun x135 => (((pure (.int 1) >>= fun x150 => ((pure (.int 1) >>= fun x154 => negM x154) >>= fun x152 => pure [] >>= fun l153 => pure (x152 :: l153)) >>= fun l151 => pure (x150 :: l151)) >>= fun l149 => tupM l149) >>= fun x147 => pure [] >>= fun l148 => pure (x147 :: l148)) >>= fun l136 => pure (x135 :: l136)) >>= fun l129 => pure (x128 :: l129)) >>= fun l127 => pure (x126 :: l127)) >>= fun l125 => dispM false l125) >>= fun x124 => itM x124) ρ fun it123 h => loopOf (turnS (stN 2) (L2__law_parts_refused fl ms o)) it123 ρ h)
  (seqS (fun ρ => liftE (pure (.bl true)) ρ fun d h => .ret d h)
  (fun ρ h => .next ρ h))))))
def S_need_rough (fl ms : List (Str × Str)) : ClS := fun o => (seqS (fun ρ => liftE (((((getV ρ 0 >>= fun x6 => pure [] >>= fun l7 => pure (x6 :: l7)) >>= fun l5 => o ("is_part", none) l5) >>= fun x4 => asBool x4) >>= fun b3 => pure (!b3)) >>= fun c2 => if c2 then pure true else ((((((getV ρ 0 >>= fun x16 => itM x16) >>= fun it14 => M.nox (compIt (turnC (stN 1) (fun ρ => pure true) (fun ρ => (((((getV ρ 1 >>= fun x24 => pure [] >>= fun l25 => pure (x24 :: l25)) >>= fun l23 => b_len l23) >>= fun x20 => pure (.int 4) >>= fun y21 => cmpM .LtE x20 y21 >>= fun c22 => pure (.bl c22)) >>= fun x18 => asBool x18 >>= fun c19 => if c19 then ((pure .non >>= fun x28 => getV ρ 1 >>= fun y29 => cmpM .NotIn x28 y29 >>= fun c30 => pure (.bl c30)) >>= fun x26 => asBool x26) else pure false) >>= fun b17 => pure (.bl b17))) (wipeE ρ [1])) it14) >>= fun l15 => newL false l15) >>= fun x12 => pure [] >>= fun l13 => pure (x12 :: l13)) >>= fun l11 => b_all l11) >>= fun x10 => asBool x10) >>= fun b9 => pure (!b9))) ρ fun c1 h => if c1 then (seqS (fun ρ => fun h => .exc "BadRough" ρ h)
    (fun ρ h => .next ρ h)) ρ h else (fun ρ h => .next ρ h) ρ h)
  (fun ρ h => .next ρ h))
def L1_chosen (fl ms : List (Str × Str)) (o : Ora) : Env → AH → RS := (seqS (fun ρ => liftE ((getV ρ 2 >>= fun x15 => (((((getV ρ 0 >>= fun x23 => ((getV ρ 3 >>= fun x27 => pure (.int 1) >>= fun y28 => binM .Add false x27 y28) >>= fun x26 => partM x26) >>= fun y24 => pure none >>= fun z25 => sliceM false x23 y24 z25) >>= fun x21 => ((getV ρ 1 >>= fun x31 => pure (.int 1) >>= fun y32 => binM .Sub false x31 y32) >>= fun x29 => pure [] >>= fun l30 => pure (x29 :: l30)) >>= fun l22 => pure (x21 :: l22)) >>= fun l20 => o ("chosen", none) l20) >>= fun x19 => itM x19) >>= fun it17 => M.nox (compIt (turnC (stN 5) (fun ρ => pure true) (fun ρ => (((getV ρ 4 >>= fun x36 => pure [] >>= fun l37 => pure (x36 :: l37)) >>= fun l35 => tupM l35) >>= fun x33 => getV ρ 5 >>= fun y34 => binM .Add false x33 y34)) (wipeE ρ [5])) it17) >>= fun l18 => newL false l18) >>= fun y16 => binM .Add false x15 y16) >>= fun d14 => stN 2 d14 ρ) ρ fun ρ h => .next ρ h)
  (fun ρ h => .next ρ h))
def S_chosen (fl ms : List (Str × Str)) : ClS := fun o => (seqS (fun ρ => liftE (getV ρ 1 >>= fun x2 => pure (.int 0) >>= fun y3 => cmpM .Eq x2 y3) ρ fun c1 h => if c1 then (seqS (fun ρ => liftE (((pure [] >>= fun l8 => tupM l8) >>= fun x6 => pure [] >>= fun l7 => pure (x6 :: l7)) >>= fun l5 => dispM false l5) ρ fun d h => .ret d h)
    (fun ρ h => .next ρ h)) ρ h else (fun ρ h => .next ρ h) ρ h)
  (seqS (fun ρ => liftE ((pure [] >>= fun l10 => dispM false l10) >>= fun d9 => stN 2 d9 ρ) ρ fun ρ h => .next ρ h)
  (seqS (fun ρ => liftE (getV ρ 0 >>= fun x12 => enumM x12) ρ fun it11 h => loopOf (turnS (stT [3, 4]) (L1_chosen fl ms o)) it11 ρ h)
  (seqS (fun ρ => liftE (getV ρ 2) ρ fun d h => .ret d h)
  (fun ρ h => .next ρ h)))))
def L1_faded (fl ms : List (Str × Str)) (o : Ora) : Env → AH → RS := (seqS (fun ρ => liftE (((getV ρ 0 >>= fun x5 => (getV ρ 2 >>= fun x7 => (pure .non >>= fun x9 => pure [] >>= fun l10 => pure (x9 :: l10)) >>= fun l8 => pure (x7 :: l8)) >>= fun l6 => pure (x5 :: l6)) >>= fun l4 => o ("told_at", none) l4) >>= fun d3 => stN 0 d3 ρ) ρ fun ρ h => .next ρ h)
  (fun ρ h => .next ρ h))
def S_faded (fl ms : List (Str × Str)) : ClS := fun o => (seqS (fun ρ => liftE (getV ρ 1 >>= fun x2 => itM x2) ρ fun it1 h => loopOf (turnS (stN 2) (L1_faded fl ms o)) it1 ρ h)
  (seqS (fun ρ => liftE (getV ρ 0) ρ fun d h => .ret d h)
  (fun ρ h => .next ρ h)))
def S_fewest_wrong (fl ms : List (Str × Str)) : ClS := fun o => (seqS (fun ρ => liftE ((getV ρ 0 >>= fun x2 => pure [] >>= fun l3 => pure (x2 :: l3)) >>= fun l1 => o ("need_rough", none) l1) ρ fun _ h => .next ρ h)
  (seqS (fun ρ => liftE (((((getV ρ 0 >>= fun x10 => pure [] >>= fun l11 => pure (x10 :: l11)) >>= fun l9 => o ("least_wrong", none) l9) >>= fun x7 => pure (.int 0) >>= fun y8 => idxM x7 y8) >>= fun x5 => pure [] >>= fun l6 => pure (x5 :: l6)) >>= fun l4 => b_len l4) ρ fun d h => .ret d h)
  (fun ρ h => .next ρ h)))
def S_wrong_ones (fl ms : List (Str × Str)) : ClS := fun o => (seqS (fun ρ => liftE ((getV ρ 0 >>= fun x2 => pure [] >>= fun l3 => pure (x2 :: l3)) >>= fun l1 => o ("need_rough", none) l1) ρ fun _ h => .next ρ h)
  (seqS (fun ρ => liftE ((getV ρ 0 >>= fun x5 => pure [] >>= fun l6 => pure (x5 :: l6)) >>= fun l4 => o ("least_wrong", none) l4) ρ fun d h => .ret d h)
  (fun ρ h => .next ρ h)))
def S_need_fit (fl ms : List (Str × Str)) : ClS := fun o => (seqS (fun ρ => liftE ((getV ρ 0 >>= fun x2 => (getV ρ 1 >>= fun x4 => (getV ρ 2 >>= fun x6 => pure [] >>= fun l7 => pure (x6 :: l7)) >>= fun l5 => pure (x4 :: l5)) >>= fun l3 => pure (x2 :: l3)) >>= fun l1 => o ("need_road", none) l1) ρ fun _ h => .next ρ h)
  (seqS (fun ρ => liftE ((((getV ρ 0 >>= fun x12 => (getV ρ 1 >>= fun x14 => (getV ρ 2 >>= fun x16 => pure [] >>= fun l17 => pure (x16 :: l17)) >>= fun l15 => pure (x14 :: l15)) >>= fun l13 => pure (x12 :: l13)) >>= fun l11 => o ("days_fit", none) l11) >>= fun x10 => asBool x10) >>= fun b9 => pure (!b9)) ρ fun c8 h => if c8 then (seqS (fun ρ => fun h => .exc "Nothing" ρ h)
    (fun ρ h => .next ρ h)) ρ h else (fun ρ h => .next ρ h) ρ h)
  (fun ρ h => .next ρ h)))
def S_as_rows (fl ms : List (Str × Str)) : ClS := fun o => (seqS (fun ρ => liftE (((((pure (.int 0) >>= fun x6 => (pure (.int 1) >>= fun x8 => pure [] >>= fun l9 => pure (x8 :: l9)) >>= fun l7 => pure (x6 :: l7)) >>= fun l5 => tupM l5) >>= fun x4 => itM x4) >>= fun it2 => M.nox (compIt (turnC (stN 3) (fun ρ => pure true) (fun ρ => (((((((getV ρ 0 >>= fun x20 => getV ρ 3 >>= fun y21 => idxM x20 y21) >>= fun x18 => pure [] >>= fun l19 => pure (x18 :: l19)) >>= fun l17 => b_len l17) >>= fun x15 => rng1M x15) >>= fun it13 => M.nox (compIt (turnC (stN 4) (fun ρ => pure true) (fun ρ => (getV ρ 1 >>= fun x22 => ((getV ρ 3 >>= fun x25 => (getV ρ 4 >>= fun x27 => pure [] >>= fun l28 => pure (x27 :: l28)) >>= fun l26 => pure (x25 :: l26)) >>= fun l24 => tupM l24) >>= fun y23 => idxM x22 y23)) (wipeE ρ [4])) it13) >>= fun l14 => newL false l14) >>= fun x11 => pure [] >>= fun l12 => pure (x11 :: l12)) >>= fun l10 => b_tuple l10)) (wipeE ρ [3])) it2) >>= fun l3 => newL false l3) >>= fun d1 => stN 2 d1 ρ) ρ fun ρ h => .next ρ h)
  (seqS (fun ρ => liftE (((getV ρ 2 >>= fun x32 => pure (.int 0) >>= fun y33 => idxM x32 y33) >>= fun x30 => ((getV ρ 2 >>= fun x36 => pure (.int 1) >>= fun y37 => idxM x36 y37) >>= fun x34 => pure [] >>= fun l35 => pure (x34 :: l35)) >>= fun l31 => pure (x30 :: l31)) >>= fun l29 => tupM l29) ρ fun d h => .ret d h)
  (fun ρ h => .next ρ h)))
def S_earliest (fl ms : List (Str × Str)) : ClS := fun o => (seqS (fun ρ => liftE ((getV ρ 0 >>= fun x2 => (getV ρ 1 >>= fun x4 => (getV ρ 2 >>= fun x6 => pure [] >>= fun l7 => pure (x6 :: l7)) >>= fun l5 => pure (x4 :: l5)) >>= fun l3 => pure (x2 :: l3)) >>= fun l1 => o ("need_fit", none) l1) ρ fun _ h => .next ρ h)
  (seqS (fun ρ => liftE ((getV ρ 0 >>= fun x9 => (((getV ρ 0 >>= fun x14 => (getV ρ 1 >>= fun x16 => (getV ρ 2 >>= fun x18 => pure [] >>= fun l19 => pure (x18 :: l19)) >>= fun l17 => pure (x16 :: l17)) >>= fun l15 => pure (x14 :: l15)) >>= fun l13 => o ("early_days", none) l13) >>= fun x11 => pure [] >>= fun l12 => pure (x11 :: l12)) >>= fun l10 => pure (x9 :: l10)) >>= fun l8 => o ("as_rows", none) l8) ρ fun d h => .ret d h)
  (fun ρ h => .next ρ h)))
def S_late_roads (fl ms : List (Str × Str)) : ClS := fun o => (seqS (fun ρ => liftE ((getV ρ 0 >>= fun x2 => (getV ρ 1 >>= fun x4 => pure [] >>= fun l5 => pure (x4 :: l5)) >>= fun l3 => pure (x2 :: l3)) >>= fun l1 => o ("need_dates", none) l1) ρ fun _ h => .next ρ h)
  (seqS (fun ρ => liftE ((((pure (.int 9) >>= fun x19 => pure (.int 1) >>= fun y20 => binM .Add false x19 y20) >>= fun x17 => rng1M x17) >>= fun it7 => M.nox (compIt (turnC (stN 3) (fun ρ => (((getV ρ 0 >>= fun x11 => (getV ρ 1 >>= fun x13 => (getV ρ 3 >>= fun x15 => pure [] >>= fun l16 => pure (x15 :: l16)) >>= fun l14 => pure (x13 :: l14)) >>= fun l12 => pure (x11 :: l12)) >>= fun l10 => o ("days_fit", none) l10) >>= fun x9 => asBool x9)) (fun ρ => getV ρ 3) (wipeE ρ [3])) it7) >>= fun l8 => newL false l8) >>= fun d6 => stN 2 d6 ρ) ρ fun ρ h => .next ρ h)
  (seqS (fun ρ => liftE ((getV ρ 2 >>= fun x22 => (pure [] >>= fun l25 => dispM false l25) >>= fun y23 => cmpM .NotEq x22 y23) >>= fun c21 => if c21 then (getV ρ 2 >>= fun x26 => (pure (.int 1) >>= fun x28 => negM x28) >>= fun y27 => idxM x26 y27) else pure .non) ρ fun d h => .ret d h)
  (fun ρ h => .next ρ h))))
def L2__law_gaps (fl ms : List (Str × Str)) (o : Ora) : Env → AH → RS := (seqS (fun ρ => liftE (((getV ρ 3 >>= fun x18 => pure (.int 0) >>= fun y19 => idxM x18 y19) >>= fun x15 => (getV ρ 4 >>= fun x20 => pure (.int 0) >>= fun y21 => idxM x20 y21) >>= fun y16 => cmpM .Eq x15 y16) >>= fun c14 => if c14 then ((getV ρ 4 >>= fun x26 => pure (.int 1) >>= fun y27 => idxM x26 y27) >>= fun x23 => ((getV ρ 3 >>= fun x30 => pure (.int 1) >>= fun y31 => idxM x30 y31) >>= fun x28 => pure (.int 1) >>= fun y29 => binM .Add false x28 y29) >>= fun y24 => cmpM .Eq x23 y24) else pure false) ρ fun c13 h => if c13 then (seqS (fun ρ => liftE (getV ρ 2 >>= fun x32 => methM ms o "append" x32 (((getV ρ 3 >>= fun x36 => (getV ρ 4 >>= fun x38 => (pure (.int 0) >>= fun x40 => pure [] >>= fun l41 => pure (x40 :: l41)) >>= fun l39 => pure (x38 :: l39)) >>= fun l37 => pure (x36 :: l37)) >>= fun l35 => tupM l35) >>= fun x33 => pure [] >>= fun l34 => pure (x33 :: l34))) ρ fun _ h => .next ρ h)
    (fun ρ h => .next ρ h)) ρ h else (fun ρ h => .next ρ h) ρ h)
  (seqS (fun ρ => liftE (((getV ρ 3 >>= fun x47 => pure (.int 0) >>= fun y48 => idxM x47 y48) >>= fun x44 => (getV ρ 4 >>= fun x49 => pure (.int 0) >>= fun y50 => idxM x49 y50) >>= fun y45 => cmpM .NotEq x44 y45) >>= fun c43 => if c43 then (((getV ρ 0 >>= fun x57 => (getV ρ 4 >>= fun x59 => pure (.int 0) >>= fun y60 => idxM x59 y60) >>= fun y58 => idxM x57 y58) >>= fun x55 => (getV ρ 4 >>= fun x61 => pure (.int 1) >>= fun y62 => idxM x61 y62) >>= fun y56 => idxM x55 y56) >>= fun x52 => (getV ρ 3 >>= fun x63 => pure (.int 1) >>= fun y64 => idxM x63 y64) >>= fun y53 => cmpM .Gt x52 y53) else pure false) ρ fun c42 h => if c42 then (seqS (fun ρ => liftE (getV ρ 2 >>= fun x65 => methM ms o "append" x65 (((getV ρ 3 >>= fun x69 => (getV ρ 4 >>= fun x71 => (getV ρ 1 >>= fun x73 => pure [] >>= fun l74 => pure (x73 :: l74)) >>= fun l72 => pure (x71 :: l72)) >>= fun l70 => pure (x69 :: l70)) >>= fun l68 => tupM l68) >>= fun x66 => pure [] >>= fun l67 => pure (x66 :: l67))) ρ fun _ h => .next ρ h)
    (fun ρ h => .next ρ h)) ρ h else (fun ρ h => .next ρ h) ρ h)
  (fun ρ h => .next ρ h)))
def L1__law_gaps (fl ms : List (Str × Str)) (o : Ora) : Env → AH → RS := (seqS (fun ρ => liftE (((getV ρ 0 >>= fun x11 => pure [] >>= fun l12 => pure (x11 :: l12)) >>= fun l10 => o ("_law_letters", none) l10) >>= fun x9 => itM x9) ρ fun it8 h => loopOf (turnS (stN 4) (L2__law_gaps fl ms o)) it8 ρ h)
  (fun ρ h => .next ρ h))
def S__law_gaps (fl ms : List (Str × Str)) : ClS := fun o => (seqS (fun ρ => liftE ((pure [] >>= fun l2 => dispM true l2) >>= fun d1 => stN 2 d1 ρ) ρ fun ρ h => .next ρ h)
  (seqS (fun ρ => liftE (((getV ρ 0 >>= fun x6 => pure [] >>= fun l7 => pure (x6 :: l7)) >>= fun l5 => o ("_law_letters", none) l5) >>= fun x4 => itM x4) ρ fun it3 h => loopOf (turnS (stN 3) (L1__law_gaps fl ms o)) it3 ρ h)
  (seqS (fun ρ => liftE (getV ρ 2) ρ fun d h => .ret d h)
  (fun ρ h => .next ρ h))))
def L1__law_told_days (fl ms : List (Str × Str)) (o : Ora) : Env → AH → RS := (seqS (fun ρ => liftE ((((getV ρ 4 >>= fun x39 => getV ρ 5 >>= fun y40 => idxM x39 y40) >>= fun x36 => pure (.int 10000) >>= fun y37 => cmpM .Lt x36 y37) >>= fun c35 => if c35 then (getV ρ 4 >>= fun x41 => getV ρ 5 >>= fun y42 => idxM x41 y42) else pure .non) >>= fun d34 => stN 9 d34 ρ) ρ fun ρ h => .next ρ h)
  (seqS (fun ρ => liftE ((((getV ρ 7 >>= fun x50 => (getV ρ 5 >>= fun x52 => pure (.int 0) >>= fun y53 => idxM x52 y53) >>= fun y51 => idxM x50 y51) >>= fun x48 => (getV ρ 5 >>= fun x54 => pure (.int 1) >>= fun y55 => idxM x54 y55) >>= fun y49 => idxM x48 y49) >>= fun x45 => (getV ρ 3 >>= fun x56 => getV ρ 5 >>= fun y57 => idxM x56 y57) >>= fun y46 => cmpM .NotEq x45 y46) >>= fun c44 => if c44 then pure true else (((getV ρ 8 >>= fun x64 => (getV ρ 5 >>= fun x66 => pure (.int 0) >>= fun y67 => idxM x66 y67) >>= fun y65 => idxM x64 y65) >>= fun x62 => (getV ρ 5 >>= fun x68 => pure (.int 1) >>= fun y69 => idxM x68 y69) >>= fun y63 => idxM x62 y63) >>= fun x59 => getV ρ 9 >>= fun y60 => cmpM .NotEq x59 y60)) ρ fun c43 h => if c43 then (seqS (fun ρ => liftE (pure (.bl false)) ρ fun d h => .ret d h)
    (fun ρ h => .next ρ h)) ρ h else (fun ρ h => .next ρ h) ρ h)
  (seqS (fun ρ => liftE ((getV ρ 9 >>= fun x72 => pure .non >>= fun y73 => cmpM .IsNot x72 y73) >>= fun c71 => if c71 then (getV ρ 9 >>= fun x76 => (getV ρ 3 >>= fun x79 => getV ρ 5 >>= fun y80 => idxM x79 y80) >>= fun y77 => cmpM .Lt x76 y77) else pure false) ρ fun c70 h => if c70 then (seqS (fun ρ => liftE (pure (.bl false)) ρ fun d h => .ret d h)
    (fun ρ h => .next ρ h)) ρ h else (fun ρ h => .next ρ h) ρ h)
  (fun ρ h => .next ρ h))))
def S__law_told_days (fl ms : List (Str × Str)) : ClS := fun o => (seqS (fun ρ => liftE (((getV ρ 0 >>= fun x3 => (getV ρ 1 >>= fun x5 => (getV ρ 2 >>= fun x7 => pure [] >>= fun l8 => pure (x7 :: l8)) >>= fun l6 => pure (x5 :: l6)) >>= fun l4 => pure (x3 :: l4)) >>= fun l2 => o ("_law_late", none) l2) >>= fun d1 => stN 4 d1 ρ) ρ fun ρ h => .next ρ h)
  (seqS (fun ρ => liftE (((((getV ρ 0 >>= fun x14 => (getV ρ 1 >>= fun x16 => (getV ρ 2 >>= fun x18 => pure [] >>= fun l19 => pure (x18 :: l19)) >>= fun l17 => pure (x16 :: l17)) >>= fun l15 => pure (x14 :: l15)) >>= fun l13 => o ("earliest", none) l13) >>= fun x11 => (((getV ρ 0 >>= fun x23 => (getV ρ 1 >>= fun x25 => (getV ρ 2 >>= fun x27 => pure [] >>= fun l28 => pure (x27 :: l28)) >>= fun l26 => pure (x25 :: l26)) >>= fun l24 => pure (x23 :: l24)) >>= fun l22 => o ("latest", none) l22) >>= fun x20 => pure [] >>= fun l21 => pure (x20 :: l21)) >>= fun l12 => pure (x11 :: l12)) >>= fun l10 => tupM l10) >>= fun d9 => stT [7, 8] d9 ρ) ρ fun ρ h => .next ρ h)
  (seqS (fun ρ => liftE (((getV ρ 0 >>= fun x32 => pure [] >>= fun l33 => pure (x32 :: l33)) >>= fun l31 => o ("_law_letters", none) l31) >>= fun x30 => itM x30) ρ fun it29 h => loopOf (turnS (stN 5) (L1__law_told_days fl ms o)) it29 ρ h)
  (seqS (fun ρ => liftE (((getV ρ 0 >>= fun x84 => itM x84) >>= fun it82 => M.nox (compIt (turnC (stN 10) (fun ρ => pure true) (fun ρ => ((getV ρ 10 >>= fun x86 => pure [] >>= fun l87 => pure (x86 :: l87)) >>= fun l85 => b_len l85)) (wipeE ρ [10])) it82) >>= fun l83 => newL false l83) >>= fun d81 => stN 6 d81 ρ) ρ fun ρ h => .next ρ h)
  (seqS (fun ρ => liftE (((((getV ρ 7 >>= fun x96 => itM x96) >>= fun it94 => M.nox (compIt (turnC (stN 10) (fun ρ => pure true) (fun ρ => ((getV ρ 10 >>= fun x98 => pure [] >>= fun l99 => pure (x98 :: l99)) >>= fun l97 => b_len l97)) (wipeE ρ [10])) it94) >>= fun l95 => newL false l95) >>= fun x91 => getV ρ 6 >>= fun y92 => cmpM .Eq x91 y92 >>= fun c93 => pure (.bl c93)) >>= fun x89 => asBool x89 >>= fun c90 => if c90 then ((((getV ρ 8 >>= fun x107 => itM x107) >>= fun it105 => M.nox (compIt (turnC (stN 10) (fun ρ => pure true) (fun ρ => ((getV ρ 10 >>= fun x109 => pure [] >>= fun l110 => pure (x109 :: l110)) >>= fun l108 => b_len l108)) (wipeE ρ [10])) it105) >>= fun l106 => newL false l106) >>= fun x102 => getV ρ 6 >>= fun y103 => cmpM .Eq x102 y103 >>= fun c104 => pure (.bl c104)) >>= fun x100 => asBool x100) else pure false) >>= fun b88 => pure (.bl b88)) ρ fun d h => .ret d h)
  (fun ρ h => .next ρ h))))))
def L1__law_ties (fl ms : List (Str × Str)) (o : Ora) : Env → AH → RS := (seqS (fun ρ => liftE ((((pure (.int 1) >>= fun x12 => (getV ρ 2 >>= fun x14 => pure (.int 0) >>= fun y15 => idxM x14 y15) >>= fun y13 => binM .Sub false x12 y13) >>= fun x10 => ((getV ρ 0 >>= fun x18 => (pure (.int 1) >>= fun x20 => (getV ρ 2 >>= fun x22 => pure (.int 0) >>= fun y23 => idxM x22 y23) >>= fun y21 => binM .Sub false x20 y21) >>= fun y19 => idxM x18 y19) >>= fun x16 => pure [] >>= fun l17 => pure (x16 :: l17)) >>= fun l11 => pure (x10 :: l11)) >>= fun l9 => tupM l9) >>= fun d8 => stT [4, 5] d8 ρ) ρ fun ρ h => .next ρ h)
  (seqS (fun ρ => liftE (((((getV ρ 5 >>= fun x39 => pure [] >>= fun l40 => pure (x39 :: l40)) >>= fun l38 => b_len l38) >>= fun x36 => rng1M x36) >>= fun it25 => M.nox (compIt (turnC (stN 6) (fun ρ => ((getV ρ 5 >>= fun x30 => getV ρ 6 >>= fun y31 => idxM x30 y31) >>= fun x27 => ((getV ρ 2 >>= fun x34 => pure (.int 1) >>= fun y35 => idxM x34 y35) >>= fun x32 => pure (.int 1) >>= fun y33 => binM .Add false x32 y33) >>= fun y28 => cmpM .Eq x27 y28)) (fun ρ => getV ρ 6) (wipeE ρ [6])) it25) >>= fun l26 => newL false l26) >>= fun d24 => stN 3 d24 ρ) ρ fun ρ h => .next ρ h)
  (seqS (fun ρ => liftE ((getV ρ 1 >>= fun x42 => (((getV ρ 3 >>= fun x47 => pure none >>= fun y48 => (pure (.int 1) >>= fun x50 => partM x50) >>= fun z49 => sliceM false x47 y48 z49) >>= fun x46 => itM x46) >>= fun it44 => M.nox (compIt (turnC (stN 6) (fun ρ => pure true) (fun ρ => ((getV ρ 2 >>= fun x52 => (((getV ρ 4 >>= fun x57 => (getV ρ 6 >>= fun x59 => pure [] >>= fun l60 => pure (x59 :: l60)) >>= fun l58 => pure (x57 :: l58)) >>= fun l56 => tupM l56) >>= fun x54 => pure [] >>= fun l55 => pure (x54 :: l55)) >>= fun l53 => pure (x52 :: l53)) >>= fun l51 => tupM l51)) (wipeE ρ [6])) it44) >>= fun l45 => newL false l45) >>= fun y43 => binM .Add false x42 y43) >>= fun d41 => stN 1 d41 ρ) ρ fun ρ h => .next ρ h)
  (fun ρ h => .next ρ h))))
def S__law_ties (fl ms : List (Str × Str)) : ClS := fun o => (seqS (fun ρ => liftE ((pure [] >>= fun l2 => dispM false l2) >>= fun d1 => stN 1 d1 ρ) ρ fun ρ h => .next ρ h)
  (seqS (fun ρ => liftE (((getV ρ 0 >>= fun x6 => pure [] >>= fun l7 => pure (x6 :: l7)) >>= fun l5 => o ("_law_letters", none) l5) >>= fun x4 => itM x4) ρ fun it3 h => loopOf (turnS (stN 2) (L1__law_ties fl ms o)) it3 ρ h)
  (seqS (fun ρ => liftE (getV ρ 1) ρ fun d h => .ret d h)
  (fun ρ h => .next ρ h))))
def S_Post_init (fl ms : List (Str × Str)) : ClS := fun o => (seqS (fun ρ => liftE ((pure [] >>= fun l3 => dispM true l3) >>= fun v1 => getV ρ 0 >>= fun x2 => setFldM fl x2 "deeds" v1) ρ fun _ h => .next ρ h)
  (fun ρ h => .next ρ h))
def S_Post_len (fl ms : List (Str × Str)) : ClS := fun o => (seqS (fun ρ => liftE (((getV ρ 0 >>= fun x4 => fldM fl x4 "deeds") >>= fun x2 => pure [] >>= fun l3 => pure (x2 :: l3)) >>= fun l1 => b_len l1) ρ fun d h => .ret d h)
  (fun ρ h => .next ρ h))
def S_Post_bundle (fl ms : List (Str × Str)) : ClS := fun o => (seqS (fun ρ => liftE (((((getV ρ 0 >>= fun x10 => fldM fl x10 "deeds") >>= fun x9 => itM x9) >>= fun it4 => M.nox (compIt (turnC (stT [2, 3]) (fun ρ => (getV ρ 2 >>= fun x6 => getV ρ 1 >>= fun y7 => cmpM .Eq x6 y7)) (fun ρ => getV ρ 3) (wipeE ρ [2, 3])) it4) >>= fun l5 => newL false l5) >>= fun x2 => pure [] >>= fun l3 => pure (x2 :: l3)) >>= fun l1 => b_tuple l1) ρ fun d h => .ret d h)
  (fun ρ h => .next ρ h))
def S_Post_range_of (fl ms : List (Str × Str)) : ClS := fun o => (seqS (fun ρ => liftE ((getV ρ 0 >>= fun x2 => methM ms o "bundle" x2 (getV ρ 1 >>= fun x3 => pure [] >>= fun l4 => pure (x3 :: l4))) >>= fun d1 => stN 2 d1 ρ) ρ fun ρ h => .next ρ h)
  (seqS (fun ρ => liftE ((((getV ρ 2 >>= fun x9 => (pure [] >>= fun l12 => tupM l12) >>= fun y10 => cmpM .NotEq x9 y10) >>= fun c8 => if c8 then (getV ρ 2 >>= fun x13 => (pure (.int 1) >>= fun x15 => negM x15) >>= fun y14 => idxM x13 y14) else pure (.int 0)) >>= fun x6 => ((((getV ρ 0 >>= fun x21 => methM ms o "bundle" x21 ((pure (.int 1) >>= fun x24 => getV ρ 1 >>= fun y25 => binM .Sub false x24 y25) >>= fun x22 => pure [] >>= fun l23 => pure (x22 :: l23))) >>= fun x19 => pure [] >>= fun l20 => pure (x19 :: l20)) >>= fun l18 => b_len l18) >>= fun x16 => pure [] >>= fun l17 => pure (x16 :: l17)) >>= fun l7 => pure (x6 :: l7)) >>= fun l5 => tupM l5) ρ fun d h => .ret d h)
  (fun ρ h => .next ρ h)))
def S_Post_write (fl ms : List (Str × Str)) : ClS := fun o => (seqS (fun ρ => liftE ((((getV ρ 1 >>= fun x5 => (pure (.int 0) >>= fun x7 => (pure (.int 1) >>= fun x9 => pure [] >>= fun l10 => pure (x9 :: l10)) >>= fun l8 => pure (x7 :: l8)) >>= fun l6 => pure (x5 :: l6)) >>= fun l4 => o ("is_whole", none) l4) >>= fun x3 => asBool x3) >>= fun b2 => pure (!b2)) ρ fun c1 h => if c1 then (seqS (fun ρ => fun h => .exc "BadLetter" ρ h)
    (fun ρ h => .next ρ h)) ρ h else (fun ρ h => .next ρ h) ρ h)
  (seqS (fun ρ => liftE ((getV ρ 0 >>= fun x12 => methM ms o "range_of" x12 (getV ρ 1 >>= fun x13 => pure [] >>= fun l14 => pure (x13 :: l14))) >>= fun d11 => stT [3, 4] d11 ρ) ρ fun ρ h => .next ρ h)
  (seqS (fun ρ => liftE ((((getV ρ 2 >>= fun x19 => (getV ρ 3 >>= fun x21 => (getV ρ 4 >>= fun x23 => pure [] >>= fun l24 => pure (x23 :: l24)) >>= fun l22 => pure (x21 :: l22)) >>= fun l20 => pure (x19 :: l20)) >>= fun l18 => o ("is_whole", none) l18) >>= fun x17 => asBool x17) >>= fun b16 => pure (!b16)) ρ fun c15 h => if c15 then (seqS (fun ρ => fun h => .exc "BadNumber" ρ h)
    (fun ρ h => .next ρ h)) ρ h else (fun ρ h => .next ρ h) ρ h)
  (seqS (fun ρ => liftE ((((getV ρ 0 >>= fun x32 => methM ms o "bundle" x32 (getV ρ 1 >>= fun x33 => pure [] >>= fun l34 => pure (x33 :: l34))) >>= fun x30 => pure [] >>= fun l31 => pure (x30 :: l31)) >>= fun l29 => b_len l29) >>= fun x26 => pure (.int 7) >>= fun y27 => cmpM .Eq x26 y27) ρ fun c25 h => if c25 then (seqS (fun ρ => fun h => .exc "Full" ρ h)
    (fun ρ h => .next ρ h)) ρ h else (fun ρ h => .next ρ h) ρ h)
  (seqS (fun ρ => liftE ((getV ρ 0 >>= fun x36 => fldM fl x36 "deeds") >>= fun x35 => methM ms o "append" x35 (((getV ρ 1 >>= fun x40 => (getV ρ 2 >>= fun x42 => pure [] >>= fun l43 => pure (x42 :: l43)) >>= fun l41 => pure (x40 :: l41)) >>= fun l39 => tupM l39) >>= fun x37 => pure [] >>= fun l38 => pure (x37 :: l38))) ρ fun _ h => .next ρ h)
  (seqS (fun ρ => liftE ((((getV ρ 0 >>= fun x49 => methM ms o "bundle" x49 (getV ρ 1 >>= fun x50 => pure [] >>= fun l51 => pure (x50 :: l51))) >>= fun x47 => pure [] >>= fun l48 => pure (x47 :: l48)) >>= fun l46 => b_len l46) >>= fun x44 => pure (.int 1) >>= fun y45 => binM .Sub false x44 y45) ρ fun d h => .ret d h)
  (fun ρ h => .next ρ h)))))))
def S_Post_mail (fl ms : List (Str × Str)) : ClS := fun o => (seqS (fun ρ => liftE (((getV ρ 0 >>= fun x4 => methM ms o "bundle" x4 (pure (.int 0) >>= fun x5 => pure [] >>= fun l6 => pure (x5 :: l6))) >>= fun x2 => ((getV ρ 0 >>= fun x9 => methM ms o "bundle" x9 (pure (.int 1) >>= fun x10 => pure [] >>= fun l11 => pure (x10 :: l11))) >>= fun x7 => pure [] >>= fun l8 => pure (x7 :: l8)) >>= fun l3 => pure (x2 :: l3)) >>= fun l1 => tupM l1) ρ fun d h => .ret d h)
  (fun ρ h => .next ρ h))
def S_Post_order (fl ms : List (Str × Str)) : ClS := fun o => (seqS (fun ρ => liftE (((((getV ρ 0 >>= fun x7 => fldM fl x7 "deeds") >>= fun x6 => itM x6) >>= fun it4 => M.nox (compIt (turnC (stT [1, 2]) (fun ρ => pure true) (fun ρ => getV ρ 1) (wipeE ρ [1, 2])) it4) >>= fun l5 => newL false l5) >>= fun x2 => pure [] >>= fun l3 => pure (x2 :: l3)) >>= fun l1 => b_tuple l1) ρ fun d h => .ret d h)
  (fun ρ h => .next ρ h))
def S_Post_may_read (fl ms : List (Str × Str)) : ClS := fun o => (seqS (fun ρ => liftE ((((getV ρ 1 >>= fun x5 => (pure (.int 0) >>= fun x7 => (pure (.int 1) >>= fun x9 => pure [] >>= fun l10 => pure (x9 :: l10)) >>= fun l8 => pure (x7 :: l8)) >>= fun l6 => pure (x5 :: l6)) >>= fun l4 => o ("is_whole", none) l4) >>= fun x3 => asBool x3) >>= fun b2 => pure (!b2)) ρ fun c1 h => if c1 then (seqS (fun ρ => fun h => .exc "BadLetter" ρ h)
    (fun ρ h => .next ρ h)) ρ h else (fun ρ h => .next ρ h) ρ h)
  (seqS (fun ρ => liftE (getV ρ 0 >>= fun x11 => methM ms o "range_of" x11 (getV ρ 1 >>= fun x12 => pure [] >>= fun l13 => pure (x12 :: l13))) ρ fun d h => .ret d h)
  (fun ρ h => .next ρ h)))
def S_Post_undo (fl ms : List (Str × Str)) : ClS := fun o => (seqS (fun ρ => liftE ((getV ρ 0 >>= fun x5 => fldM fl x5 "deeds") >>= fun x2 => (pure [] >>= fun l6 => dispM false l6) >>= fun y3 => cmpM .Eq x2 y3) ρ fun c1 h => if c1 then (seqS (fun ρ => fun h => .exc "Nothing" ρ h)
    (fun ρ h => .next ρ h)) ρ h else (fun ρ h => .next ρ h) ρ h)
  (seqS (fun ρ => liftE ((getV ρ 0 >>= fun x8 => fldM fl x8 "deeds") >>= fun x7 => methM ms o "pop" x7 (pure [])) ρ fun _ h => .next ρ h)
  (fun ρ h => .next ρ h)))
def L1__law_letters_refused (fl ms : List (Str × Str)) (o : Ora) : Env → AH → RS := (seqS (fun ρ => liftE (((toldM (getV ρ 0 >>= fun x19 => methM ms o "write" x19 (getV ρ 1 >>= fun x20 => (pure .non >>= fun x22 => pure [] >>= fun l23 => pure (x22 :: l23)) >>= fun l21 => pure (x20 :: l21))) >>= fun x17 => pure [] >>= fun l18 => pure (x17 :: l18)) >>= fun l16 => dispM true l16) >>= fun d15 => stN 2 d15 ρ) ρ fun ρ h => .next ρ h)
  (seqS (fun ρ => liftE (getV ρ 2 >>= fun x24 => methM ms o "append" x24 (toldM (getV ρ 0 >>= fun x27 => methM ms o "may_read" x27 (getV ρ 1 >>= fun x28 => pure [] >>= fun l29 => pure (x28 :: l29))) >>= fun x25 => pure [] >>= fun l26 => pure (x25 :: l26))) ρ fun _ h => .next ρ h)
  (seqS (fun ρ => liftE (getV ρ 2 >>= fun x31 => (((((pure (.str "refused") >>= fun x40 => (pure (.str "BadLetter") >>= fun x42 => pure [] >>= fun l43 => pure (x42 :: l43)) >>= fun l41 => pure (x40 :: l41)) >>= fun l39 => tupM l39) >>= fun x37 => pure [] >>= fun l38 => pure (x37 :: l38)) >>= fun l36 => dispM false l36) >>= fun x34 => pure (.int 2) >>= fun y35 => binM .Mult false x34 y35) >>= fun y32 => cmpM .NotEq x31 y32) ρ fun c30 h => if c30 then (seqS (fun ρ => liftE (pure (.bl false)) ρ fun d h => .ret d h)
    (fun ρ h => .next ρ h)) ρ h else (fun ρ h => .next ρ h) ρ h)
  (fun ρ h => .next ρ h))))
def L2__law_letters_refused (fl ms : List (Str × Str)) (o : Ora) : Env → AH → RS := (seqS (fun ρ => liftE (toldM (getV ρ 0 >>= fun x62 => methM ms o "write" x62 (pure (.int 0) >>= fun x63 => (getV ρ 1 >>= fun x65 => pure [] >>= fun l66 => pure (x65 :: l66)) >>= fun l64 => pure (x63 :: l64))) >>= fun x59 => ((pure (.str "refused") >>= fun x68 => (pure (.str "BadNumber") >>= fun x70 => pure [] >>= fun l71 => pure (x70 :: l71)) >>= fun l69 => pure (x68 :: l69)) >>= fun l67 => tupM l67) >>= fun y60 => cmpM .NotEq x59 y60) ρ fun c58 h => if c58 then (seqS (fun ρ => liftE (pure (.bl false)) ρ fun d h => .ret d h)
    (fun ρ h => .next ρ h)) ρ h else (fun ρ h => .next ρ h) ρ h)
  (fun ρ h => .next ρ h))
def S__law_letters_refused (fl ms : List (Str × Str)) : ClS := fun o => (seqS (fun ρ => liftE (((pure (.int 2) >>= fun x4 => ((pure (.int 1) >>= fun x8 => negM x8) >>= fun x6 => (pure (.bl true) >>= fun x9 => (pure .non >>= fun x11 => (pure (.str "a") >>= fun x13 => pure [] >>= fun l14 => pure (x13 :: l14)) >>= fun l12 => pure (x11 :: l12)) >>= fun l10 => pure (x9 :: l10)) >>= fun l7 => pure (x6 :: l7)) >>= fun l5 => pure (x4 :: l5)) >>= fun l3 => dispM false l3) >>= fun x2 => itM x2) ρ fun it1 h => loopOf (turnS (stN 1) (L1__law_letters_refused fl ms o)) it1 ρ h)
  (seqS (fun ρ => liftE ((((pure (.int 1) >>= fun x49 => negM x49) >>= fun x47 => (pure (.int 9) >>= fun x50 => (pure (.bl true) >>= fun x52 => (pure .non >>= fun x54 => (pure (.str "0") >>= fun x56 => pure [] >>= fun l57 => pure (x56 :: l57)) >>= fun l55 => pure (x54 :: l55)) >>= fun l53 => pure (x52 :: l53)) >>= fun l51 => pure (x50 :: l51)) >>= fun l48 => pure (x47 :: l48)) >>= fun l46 => dispM false l46) >>= fun x45 => itM x45) ρ fun it44 h => loopOf (turnS (stN 1) (L2__law_letters_refused fl ms o)) it44 ρ h)
  (seqS (fun ρ => liftE (pure (.bl true)) ρ fun d h => .ret d h)
  (fun ρ h => .next ρ h))))
def L1__law_full_post (fl ms : List (Str × Str)) (o : Ora) : Env → AH → RS := (seqS (fun ρ => liftE ((getV ρ 1 >>= fun x10 => methM ms o "write" x10 (getV ρ 0 >>= fun x11 => (pure (.int 0) >>= fun x13 => pure [] >>= fun l14 => pure (x13 :: l14)) >>= fun l12 => pure (x11 :: l12))) >>= fun x7 => getV ρ 2 >>= fun y8 => cmpM .NotEq x7 y8) ρ fun c6 h => if c6 then (seqS (fun ρ => liftE (pure (.bl false)) ρ fun d h => .ret d h)
    (fun ρ h => .next ρ h)) ρ h else (fun ρ h => .next ρ h) ρ h)
  (fun ρ h => .next ρ h))
def S__law_full_post (fl ms : List (Str × Str)) : ClS := fun o => (seqS (fun ρ => liftE ((pure [] >>= fun l2 => makeM o "Post" l2) >>= fun d1 => stN 1 d1 ρ) ρ fun ρ h => .next ρ h)
  (seqS (fun ρ => liftE (pure (.int 7) >>= fun x4 => rng1M x4) ρ fun it3 h => loopOf (turnS (stN 2) (L1__law_full_post fl ms o)) it3 ρ h)
  (seqS (fun ρ => liftE ((toldM (getV ρ 1 >>= fun x20 => methM ms o "write" x20 (getV ρ 0 >>= fun x21 => (pure (.int 0) >>= fun x23 => pure [] >>= fun l24 => pure (x23 :: l24)) >>= fun l22 => pure (x21 :: l22))) >>= fun x17 => ((pure (.str "refused") >>= fun x26 => (pure (.str "Full") >>= fun x28 => pure [] >>= fun l29 => pure (x28 :: l29)) >>= fun l27 => pure (x26 :: l27)) >>= fun l25 => tupM l25) >>= fun y18 => cmpM .NotEq x17 y18) >>= fun c16 => if c16 then pure true else ((getV ρ 1 >>= fun x34 => methM ms o "write" x34 ((pure (.int 1) >>= fun x37 => getV ρ 0 >>= fun y38 => binM .Sub false x37 y38) >>= fun x35 => (pure (.int 7) >>= fun x39 => pure [] >>= fun l40 => pure (x39 :: l40)) >>= fun l36 => pure (x35 :: l36))) >>= fun x31 => pure (.int 0) >>= fun y32 => cmpM .NotEq x31 y32)) ρ fun c15 h => if c15 then (seqS (fun ρ => liftE (pure (.bl false)) ρ fun d h => .ret d h)
    (fun ρ h => .next ρ h)) ρ h else (fun ρ h => .next ρ h) ρ h)
  (seqS (fun ρ => liftE (((toldM (getV ρ 1 >>= fun x47 => methM ms o "write" x47 (getV ρ 0 >>= fun x48 => (pure (.int 2) >>= fun x50 => pure [] >>= fun l51 => pure (x50 :: l51)) >>= fun l49 => pure (x48 :: l49))) >>= fun x44 => ((pure (.str "refused") >>= fun x53 => (pure (.str "BadNumber") >>= fun x55 => pure [] >>= fun l56 => pure (x55 :: l56)) >>= fun l54 => pure (x53 :: l54)) >>= fun l52 => tupM l52) >>= fun y45 => cmpM .Eq x44 y45 >>= fun c46 => pure (.bl c46)) >>= fun x42 => asBool x42 >>= fun c43 => if c43 then ((((getV ρ 1 >>= fun x63 => pure [] >>= fun l64 => pure (x63 :: l64)) >>= fun l62 => b_len l62) >>= fun x59 => pure (.int 8) >>= fun y60 => cmpM .Eq x59 y60 >>= fun c61 => pure (.bl c61)) >>= fun x57 => asBool x57) else pure false) >>= fun b41 => pure (.bl b41)) ρ fun d h => .ret d h)
  (fun ρ h => .next ρ h)))))
def S_figure_in (fl ms : List (Str × Str)) : ClS := fun o => (seqS (fun ρ => liftE ((((getV ρ 0 >>= fun x7 => pure [] >>= fun l8 => pure (x7 :: l8)) >>= fun l6 => b_len l6) >>= fun x3 => pure (.int 1) >>= fun y4 => cmpM .NotEq x3 y4) >>= fun c2 => if c2 then pure true else (getV ρ 0 >>= fun x10 => pure (.str "0123456789") >>= fun y11 => cmpM .NotIn x10 y11)) ρ fun c1 h => if c1 then (seqS (fun ρ => fun h => .exc "BadText" ρ h)
    (fun ρ h => .next ρ h)) ρ h else (fun ρ h => .next ρ h) ρ h)
  (seqS (fun ρ => liftE ((getV ρ 0 >>= fun x14 => pure [] >>= fun l15 => pure (x14 :: l15)) >>= fun l13 => b_int l13) ρ fun d h => .ret d h)
  (fun ρ h => .next ρ h)))
def S_row_in (fl ms : List (Str × Str)) : ClS := fun o => (seqS (fun ρ => liftE ((getV ρ 0 >>= fun x2 => pure (.str "-") >>= fun y3 => cmpM .NotEq x2 y3) >>= fun c1 => if c1 then (((((getV ρ 0 >>= fun x11 => methM ms o "split" x11 (pure (.str " ") >>= fun x12 => pure [] >>= fun l13 => pure (x12 :: l13))) >>= fun x10 => itM x10) >>= fun it8 => M.nox (compIt (turnC (stN 1) (fun ρ => pure true) (fun ρ => ((getV ρ 1 >>= fun x15 => pure [] >>= fun l16 => pure (x15 :: l16)) >>= fun l14 => o ("figure_in", none) l14)) (wipeE ρ [1])) it8) >>= fun l9 => newL false l9) >>= fun x6 => pure [] >>= fun l7 => pure (x6 :: l7)) >>= fun l5 => b_tuple l5) else (pure [] >>= fun l17 => tupM l17)) ρ fun d h => .ret d h)
  (fun ρ h => .next ρ h))
def S_need_text (fl ms : List (Str × Str)) : ClS := fun o => (seqS (fun ρ => liftE (((getV ρ 0 >>= fun x5 => isiM x5 .str >>= fun b6 => pure (.bl b6)) >>= fun x3 => asBool x3) >>= fun b2 => pure (!b2)) ρ fun c1 h => if c1 then (seqS (fun ρ => fun h => .exc "BadText" ρ h)
    (fun ρ h => .next ρ h)) ρ h else (fun ρ h => .next ρ h) ρ h)
  (fun ρ h => .next ρ h))
def S_read_mail (fl ms : List (Str × Str)) : ClS := fun o => (seqS (fun ρ => liftE ((getV ρ 0 >>= fun x2 => pure [] >>= fun l3 => pure (x2 :: l3)) >>= fun l1 => o ("need_text", none) l1) ρ fun _ h => .next ρ h)
  (seqS (fun ρ => liftE ((getV ρ 0 >>= fun x5 => methM ms o "split" x5 (pure (.str " / ") >>= fun x6 => pure [] >>= fun l7 => pure (x6 :: l7))) >>= fun d4 => stN 1 d4 ρ) ρ fun ρ h => .next ρ h)
  (seqS (fun ρ => liftE (((((getV ρ 1 >>= fun x14 => itM x14) >>= fun it12 => M.nox (compIt (turnC (stN 3) (fun ρ => pure true) (fun ρ => ((getV ρ 3 >>= fun x16 => pure [] >>= fun l17 => pure (x16 :: l17)) >>= fun l15 => o ("row_in", none) l15)) (wipeE ρ [3])) it12) >>= fun l13 => newL false l13) >>= fun x10 => pure [] >>= fun l11 => pure (x10 :: l11)) >>= fun l9 => b_tuple l9) >>= fun d8 => stN 2 d8 ρ) ρ fun ρ h => .next ρ h)
  (seqS (fun ρ => liftE ((((getV ρ 2 >>= fun x22 => pure [] >>= fun l23 => pure (x22 :: l23)) >>= fun l21 => o ("is_mail", none) l21) >>= fun x20 => asBool x20) >>= fun b19 => pure (!b19)) ρ fun c18 h => if c18 then (seqS (fun ρ => fun h => .exc "BadText" ρ h)
    (fun ρ h => .next ρ h)) ρ h else (fun ρ h => .next ρ h) ρ h)
  (seqS (fun ρ => liftE (getV ρ 2) ρ fun d h => .ret d h)
  (fun ρ h => .next ρ h))))))
def S_read_order (fl ms : List (Str × Str)) : ClS := fun o => (seqS (fun ρ => liftE ((getV ρ 0 >>= fun x2 => pure [] >>= fun l3 => pure (x2 :: l3)) >>= fun l1 => o ("need_mail", none) l1) ρ fun _ h => .next ρ h)
  (seqS (fun ρ => liftE ((getV ρ 1 >>= fun x5 => pure [] >>= fun l6 => pure (x5 :: l6)) >>= fun l4 => o ("need_text", none) l4) ρ fun _ h => .next ρ h)
  (seqS (fun ρ => liftE ((((((getV ρ 1 >>= fun x15 => itM x15) >>= fun it13 => M.nox (compIt (turnC (stN 3) (fun ρ => pure true) (fun ρ => (getV ρ 3 >>= fun x16 => pure (.str "ab") >>= fun y17 => cmpM .In x16 y17 >>= fun c18 => pure (.bl c18))) (wipeE ρ [3])) it13) >>= fun l14 => newL false l14) >>= fun x11 => pure [] >>= fun l12 => pure (x11 :: l12)) >>= fun l10 => b_all l10) >>= fun x9 => asBool x9) >>= fun b8 => pure (!b8)) ρ fun c7 h => if c7 then (seqS (fun ρ => fun h => .exc "BadText" ρ h)
    (fun ρ h => .next ρ h)) ρ h else (fun ρ h => .next ρ h) ρ h)
  (seqS (fun ρ => liftE (((((getV ρ 1 >>= fun x25 => itM x25) >>= fun it23 => M.nox (compIt (turnC (stN 3) (fun ρ => pure true) (fun ρ => (pure (.str "ab") >>= fun x26 => methM ms o "index" x26 (getV ρ 3 >>= fun x27 => pure [] >>= fun l28 => pure (x27 :: l28)))) (wipeE ρ [3])) it23) >>= fun l24 => newL false l24) >>= fun x21 => pure [] >>= fun l22 => pure (x21 :: l22)) >>= fun l20 => b_tuple l20) >>= fun d19 => stN 2 d19 ρ) ρ fun ρ h => .next ρ h)
  (seqS (fun ρ => liftE ((((getV ρ 0 >>= fun x33 => (getV ρ 2 >>= fun x35 => pure [] >>= fun l36 => pure (x35 :: l36)) >>= fun l34 => pure (x33 :: l34)) >>= fun l32 => o ("is_good_order", none) l32) >>= fun x31 => asBool x31) >>= fun b30 => pure (!b30)) ρ fun c29 h => if c29 then (seqS (fun ρ => fun h => .exc "BadText" ρ h)
    (fun ρ h => .next ρ h)) ρ h else (fun ρ h => .next ρ h) ρ h)
  (seqS (fun ρ => liftE (getV ρ 2) ρ fun d h => .ret d h)
  (fun ρ h => .next ρ h)))))))
def S__law_spoilt (fl ms : List (Str × Str)) : ClS := fun o => (seqS (fun ρ => liftE (((((getV ρ 0 >>= fun x6 => ((((getV ρ 1 >>= fun x13 => pure [] >>= fun l14 => pure (x13 :: l14)) >>= fun l12 => b_len l12) >>= fun x10 => pure (.int 1) >>= fun y11 => binM .Add false x10 y11) >>= fun x8 => pure [] >>= fun l9 => pure (x8 :: l9)) >>= fun l7 => pure (x6 :: l7)) >>= fun l5 => o ("_law_roll", none) l5) >>= fun x3 => (((getV ρ 0 >>= fun x18 => (pure (.int 3) >>= fun x20 => pure [] >>= fun l21 => pure (x20 :: l21)) >>= fun l19 => pure (x18 :: l19)) >>= fun l17 => o ("_law_roll", none) l17) >>= fun x15 => pure [] >>= fun l16 => pure (x15 :: l16)) >>= fun l4 => pure (x3 :: l4)) >>= fun l2 => tupM l2) >>= fun d1 => stT [4, 5] d1 ρ) ρ fun ρ h => .next ρ h)
  (seqS (fun ρ => liftE (((getV ρ 5 >>= fun x24 => pure (.int 2) >>= fun y25 => cmpM .Lt x24 y25) >>= fun c23 => if c23 then (getV ρ 2 >>= fun x27 => ((getV ρ 0 >>= fun x30 => (((getV ρ 2 >>= fun x35 => pure [] >>= fun l36 => pure (x35 :: l36)) >>= fun l34 => b_len l34) >>= fun x32 => pure [] >>= fun l33 => pure (x32 :: l33)) >>= fun l31 => pure (x30 :: l31)) >>= fun l29 => o ("_law_roll", none) l29) >>= fun y28 => idxM x27 y28) else pure (.str "")) >>= fun d22 => stN 3 d22 ρ) ρ fun ρ h => .next ρ h)
  (seqS (fun ρ => liftE (((getV ρ 1 >>= fun x41 => pure none >>= fun y42 => (getV ρ 4 >>= fun x44 => partM x44) >>= fun z43 => sliceM false x41 y42 z43) >>= fun x39 => getV ρ 3 >>= fun y40 => binM .Add false x39 y40) >>= fun x37 => (getV ρ 1 >>= fun x45 => ((getV ρ 4 >>= fun x49 => (((getV ρ 5 >>= fun x54 => pure (.int 0) >>= fun y55 => cmpM .Gt x54 y55 >>= fun c56 => pure (.bl c56)) >>= fun x52 => pure [] >>= fun l53 => pure (x52 :: l53)) >>= fun l51 => b_int l51) >>= fun y50 => binM .Add false x49 y50) >>= fun x48 => partM x48) >>= fun y46 => pure none >>= fun z47 => sliceM false x45 y46 z47) >>= fun y38 => binM .Add false x37 y38) ρ fun d h => .ret d h)
  (fun ρ h => .next ρ h))))
def L1__law_far_texts (fl ms : List (Str × Str)) (o : Ora) : Env → AH → RS := (seqS (fun ρ => liftE (toldM ((getV ρ 3 >>= fun x56 => pure [] >>= fun l57 => pure (x56 :: l57)) >>= fun l55 => o ("read_mail", none) l55) >>= fun x52 => ((pure (.str "refused") >>= fun x59 => (pure (.str "BadText") >>= fun x61 => pure [] >>= fun l62 => pure (x61 :: l62)) >>= fun l60 => pure (x59 :: l60)) >>= fun l58 => tupM l58) >>= fun y53 => cmpM .NotEq x52 y53) ρ fun c51 h => if c51 then (seqS (fun ρ => liftE (pure (.bl false)) ρ fun d h => .ret d h)
    (fun ρ h => .next ρ h)) ρ h else (fun ρ h => .next ρ h) ρ h)
  (fun ρ h => .next ρ h))
def L2__law_far_texts (fl ms : List (Str × Str)) (o : Ora) : Env → AH → RS := (seqS (fun ρ => liftE (toldM ((getV ρ 0 >>= fun x92 => (getV ρ 3 >>= fun x94 => pure [] >>= fun l95 => pure (x94 :: l95)) >>= fun l93 => pure (x92 :: l93)) >>= fun l91 => o ("read_order", none) l91) >>= fun x88 => ((pure (.str "refused") >>= fun x97 => (pure (.str "BadText") >>= fun x99 => pure [] >>= fun l100 => pure (x99 :: l100)) >>= fun l98 => pure (x97 :: l98)) >>= fun l96 => tupM l96) >>= fun y89 => cmpM .NotEq x88 y89) ρ fun c87 h => if c87 then (seqS (fun ρ => liftE (pure (.bl false)) ρ fun d h => .ret d h)
    (fun ρ h => .next ρ h)) ρ h else (fun ρ h => .next ρ h) ρ h)
  (fun ρ h => .next ρ h))
def S__law_far_texts (fl ms : List (Str × Str)) : ClS := fun o => (seqS (fun ρ => liftE (((pure .non >>= fun x3 => (pure (.int 5) >>= fun x5 => (pure (.bl true) >>= fun x7 => (pure (.str "") >>= fun x9 => (pure (.str "-") >>= fun x11 => ((getV ρ 1 >>= fun x15 => pure (.str " ") >>= fun y16 => binM .Add false x15 y16) >>= fun x13 => ((pure (.str " ") >>= fun x19 => getV ρ 1 >>= fun y20 => binM .Add false x19 y20) >>= fun x17 => ((getV ρ 1 >>= fun x23 => pure (.str " / -") >>= fun y24 => binM .Add false x23 y24) >>= fun x21 => pure [] >>= fun l22 => pure (x21 :: l22)) >>= fun l18 => pure (x17 :: l18)) >>= fun l14 => pure (x13 :: l14)) >>= fun l12 => pure (x11 :: l12)) >>= fun l10 => pure (x9 :: l10)) >>= fun l8 => pure (x7 :: l8)) >>= fun l6 => pure (x5 :: l6)) >>= fun l4 => pure (x3 :: l4)) >>= fun l2 => dispM false l2) >>= fun d1 => stN 2 d1 ρ) ρ fun ρ h => .next ρ h)
  (seqS (fun ρ => liftE ((getV ρ 2 >>= fun x26 => (((getV ρ 1 >>= fun x31 => methM ms o "replace" x31 (pure (.str " / ") >>= fun x32 => (pure (.str "/") >>= fun x34 => pure [] >>= fun l35 => pure (x34 :: l35)) >>= fun l33 => pure (x32 :: l33))) >>= fun x29 => (pure (.str "1 / -") >>= fun x36 => (pure (.str "0 / 2") >>= fun x38 => (pure (.str "1 0 / 0") >>= fun x40 => (pure (.str "00 / -") >>= fun x42 => (((getV ρ 1 >>= fun x47 => pure [] >>= fun l48 => pure (x47 :: l48)) >>= fun l46 => dispM false l46) >>= fun x44 => pure [] >>= fun l45 => pure (x44 :: l45)) >>= fun l43 => pure (x42 :: l43)) >>= fun l41 => pure (x40 :: l41)) >>= fun l39 => pure (x38 :: l39)) >>= fun l37 => pure (x36 :: l37)) >>= fun l30 => pure (x29 :: l30)) >>= fun l28 => dispM false l28) >>= fun y27 => binM .Add false x26 y27) >>= fun d25 => stN 2 d25 ρ) ρ fun ρ h => .next ρ h)
  (seqS (fun ρ => liftE (getV ρ 2 >>= fun x50 => itM x50) ρ fun it49 h => loopOf (turnS (stN 3) (L1__law_far_texts fl ms o)) it49 ρ h)
  (seqS (fun ρ => liftE (((pure .non >>= fun x66 => (pure (.int 5) >>= fun x68 => (pure (.bl true) >>= fun x70 => (pure (.str "c") >>= fun x72 => ((pure (.str "a") >>= fun x76 => pure (.int 15) >>= fun y77 => binM .Mult false x76 y77) >>= fun x74 => (pure (.str "A") >>= fun x78 => (pure (.str " ") >>= fun x80 => (((pure (.str "a") >>= fun x85 => pure [] >>= fun l86 => pure (x85 :: l86)) >>= fun l84 => dispM false l84) >>= fun x82 => pure [] >>= fun l83 => pure (x82 :: l83)) >>= fun l81 => pure (x80 :: l81)) >>= fun l79 => pure (x78 :: l79)) >>= fun l75 => pure (x74 :: l75)) >>= fun l73 => pure (x72 :: l73)) >>= fun l71 => pure (x70 :: l71)) >>= fun l69 => pure (x68 :: l69)) >>= fun l67 => pure (x66 :: l67)) >>= fun l65 => dispM false l65) >>= fun x64 => itM x64) ρ fun it63 h => loopOf (turnS (stN 3) (L2__law_far_texts fl ms o)) it63 ρ h)
  (seqS (fun ρ => liftE (((((pure (.str "- / -") >>= fun x108 => pure [] >>= fun l109 => pure (x108 :: l109)) >>= fun l107 => o ("read_mail", none) l107) >>= fun x104 => (((pure [] >>= fun l113 => tupM l113) >>= fun x111 => ((pure [] >>= fun l116 => tupM l116) >>= fun x114 => pure [] >>= fun l115 => pure (x114 :: l115)) >>= fun l112 => pure (x111 :: l112)) >>= fun l110 => tupM l110) >>= fun y105 => cmpM .Eq x104 y105 >>= fun c106 => pure (.bl c106)) >>= fun x102 => asBool x102 >>= fun c103 => if c103 then (((((((pure [] >>= fun l128 => tupM l128) >>= fun x126 => ((pure [] >>= fun l131 => tupM l131) >>= fun x129 => pure [] >>= fun l130 => pure (x129 :: l130)) >>= fun l127 => pure (x126 :: l127)) >>= fun l125 => tupM l125) >>= fun x123 => (pure (.str "") >>= fun x132 => pure [] >>= fun l133 => pure (x132 :: l133)) >>= fun l124 => pure (x123 :: l124)) >>= fun l122 => o ("read_order", none) l122) >>= fun x119 => (pure [] >>= fun l134 => tupM l134) >>= fun y120 => cmpM .Eq x119 y120 >>= fun c121 => pure (.bl c121)) >>= fun x117 => asBool x117 >>= fun c118 => if c118 then ((((pure (.str "0 1 / 0") >>= fun x141 => pure [] >>= fun l142 => pure (x141 :: l142)) >>= fun l140 => o ("read_mail", none) l140) >>= fun x137 => ((((pure (.int 0) >>= fun x147 => (pure (.int 1) >>= fun x149 => pure [] >>= fun l150 => pure (x149 :: l150)) >>= fun l148 => pure (x147 :: l148)) >>= fun l146 => tupM l146) >>= fun x144 => (((pure (.int 0) >>= fun x154 => pure [] >>= fun l155 => pure (x154 :: l155)) >>= fun l153 => tupM l153) >>= fun x151 => pure [] >>= fun l152 => pure (x151 :: l152)) >>= fun l145 => pure (x144 :: l145)) >>= fun l143 => tupM l143) >>= fun y138 => cmpM .Eq x137 y138 >>= fun c139 => pure (.bl c139)) >>= fun x135 => asBool x135) else pure false) else pure false) >>= fun b101 => pure (.bl b101)) ρ fun d h => .ret d h)
  (fun ρ h => .next ρ h))))))
def L1_post_of (fl ms : List (Str × Str)) (o : Ora) : Env → AH → RS := (seqS (fun ρ => liftE ((((getV ρ 2 >>= fun x19 => pure [] >>= fun l20 => pure (x19 :: l20)) >>= fun l18 => b_len l18) >>= fun x15 => pure (.int 2) >>= fun y16 => cmpM .NotEq x15 y16) >>= fun c14 => if c14 then pure true else ((getV ρ 2 >>= fun x25 => pure (.int 0) >>= fun y26 => idxM x25 y26) >>= fun x22 => pure (.str "ab") >>= fun y23 => cmpM .NotIn x22 y23)) ρ fun c13 h => if c13 then (seqS (fun ρ => fun h => .exc "BadText" ρ h)
    (fun ρ h => .next ρ h)) ρ h else (fun ρ h => .next ρ h) ρ h)
  (seqS (fun ρ => liftE (getV ρ 1 >>= fun x27 => methM ms o "write" x27 ((pure (.str "ab") >>= fun x30 => methM ms o "index" x30 ((getV ρ 2 >>= fun x33 => pure (.int 0) >>= fun y34 => idxM x33 y34) >>= fun x31 => pure [] >>= fun l32 => pure (x31 :: l32))) >>= fun x28 => ((((getV ρ 2 >>= fun x40 => pure (.int 1) >>= fun y41 => idxM x40 y41) >>= fun x38 => pure [] >>= fun l39 => pure (x38 :: l39)) >>= fun l37 => o ("figure_in", none) l37) >>= fun x35 => pure [] >>= fun l36 => pure (x35 :: l36)) >>= fun l29 => pure (x28 :: l29))) ρ fun _ h => .next ρ h)
  (fun ρ h => .next ρ h)))
def S_post_of (fl ms : List (Str × Str)) : ClS := fun o => (seqS (fun ρ => liftE ((pure [] >>= fun l2 => makeM o "Post" l2) >>= fun d1 => stN 1 d1 ρ) ρ fun ρ h => .next ρ h)
  (seqS (fun ρ => liftE (((getV ρ 0 >>= fun x6 => pure (.str "") >>= fun y7 => cmpM .NotEq x6 y7) >>= fun c5 => if c5 then (getV ρ 0 >>= fun x9 => methM ms o "split" x9 (pure (.str " ") >>= fun x10 => pure [] >>= fun l11 => pure (x10 :: l11))) else (pure [] >>= fun l12 => dispM false l12)) >>= fun x4 => itM x4) ρ fun it3 h => loopOf (turnS (stN 2) (L1_post_of fl ms o)) it3 ρ h)
  (seqS (fun ρ => liftE (getV ρ 1) ρ fun d h => .ret d h)
  (fun ρ h => .next ρ h))))
def S__law_photo (fl ms : List (Str × Str)) : ClS := fun o => (seqS (fun ρ => liftE (((getV ρ 0 >>= fun x4 => methM ms o "mail" x4 (pure [])) >>= fun x2 => ((getV ρ 0 >>= fun x7 => methM ms o "order" x7 (pure [])) >>= fun x5 => (((getV ρ 0 >>= fun x11 => pure [] >>= fun l12 => pure (x11 :: l12)) >>= fun l10 => b_len l10) >>= fun x8 => ((getV ρ 0 >>= fun x15 => methM ms o "may_read" x15 (pure (.int 0) >>= fun x16 => pure [] >>= fun l17 => pure (x16 :: l17))) >>= fun x13 => ((getV ρ 0 >>= fun x20 => methM ms o "may_read" x20 (pure (.int 1) >>= fun x21 => pure [] >>= fun l22 => pure (x21 :: l22))) >>= fun x18 => pure [] >>= fun l19 => pure (x18 :: l19)) >>= fun l14 => pure (x13 :: l14)) >>= fun l9 => pure (x8 :: l9)) >>= fun l6 => pure (x5 :: l6)) >>= fun l3 => pure (x2 :: l3)) >>= fun l1 => tupM l1) ρ fun d h => .ret d h)
  (fun ρ h => .next ρ h))
def S__law_asked (fl ms : List (Str × Str)) : ClS := fun o => (seqS (fun ρ => liftE (((((getV ρ 0 >>= fun x6 => pure [] >>= fun l7 => pure (x6 :: l7)) >>= fun l5 => o ("crossed", none) l5) >>= fun x3 => (((getV ρ 0 >>= fun x11 => pure [] >>= fun l12 => pure (x11 :: l12)) >>= fun l10 => o ("ties", none) l10) >>= fun x8 => pure [] >>= fun l9 => pure (x8 :: l9)) >>= fun l4 => pure (x3 :: l4)) >>= fun l2 => dispM false l2) >>= fun d1 => stN 3 d1 ρ) ρ fun ρ h => .next ρ h)
  (seqS (fun ρ => liftE ((getV ρ 3 >>= fun x14 => ((((((getV ρ 0 >>= fun x23 => pure [] >>= fun l24 => pure (x23 :: l24)) >>= fun l22 => o ("how_many", none) l22) >>= fun x20 => (((getV ρ 0 >>= fun x28 => pure [] >>= fun l29 => pure (x28 :: l29)) >>= fun l27 => o ("barring", none) l27) >>= fun x25 => (((getV ρ 0 >>= fun x33 => pure [] >>= fun l34 => pure (x33 :: l34)) >>= fun l32 => o ("unread", none) l32) >>= fun x30 => (((getV ρ 2 >>= fun x38 => pure [] >>= fun l39 => pure (x38 :: l39)) >>= fun l37 => o ("how_many_fit", none) l37) >>= fun x35 => (((getV ρ 2 >>= fun x43 => pure [] >>= fun l44 => pure (x43 :: l44)) >>= fun l42 => o ("first_fit", none) l42) >>= fun x40 => pure [] >>= fun l41 => pure (x40 :: l41)) >>= fun l36 => pure (x35 :: l36)) >>= fun l31 => pure (x30 :: l31)) >>= fun l26 => pure (x25 :: l26)) >>= fun l21 => pure (x20 :: l21)) >>= fun l19 => dispM false l19) >>= fun x17 => pure [] >>= fun l18 => pure (x17 :: l18)) >>= fun l16 => dispM false l16) >>= fun y15 => binM .Add false x14 y15) >>= fun d13 => stN 3 d13 ρ) ρ fun ρ h => .next ρ h)
  (seqS (fun ρ => liftE ((getV ρ 3 >>= fun x46 => ((((((getV ρ 0 >>= fun x55 => (getV ρ 1 >>= fun x57 => (pure (.int 1) >>= fun x59 => pure [] >>= fun l60 => pure (x59 :: l60)) >>= fun l58 => pure (x57 :: l58)) >>= fun l56 => pure (x55 :: l56)) >>= fun l54 => o ("can_date", none) l54) >>= fun x52 => (((getV ρ 0 >>= fun x64 => (getV ρ 1 >>= fun x66 => pure [] >>= fun l67 => pure (x66 :: l67)) >>= fun l65 => pure (x64 :: l65)) >>= fun l63 => o ("late_roads", none) l63) >>= fun x61 => pure [] >>= fun l62 => pure (x61 :: l62)) >>= fun l53 => pure (x52 :: l53)) >>= fun l51 => dispM false l51) >>= fun x49 => pure [] >>= fun l50 => pure (x49 :: l50)) >>= fun l48 => dispM false l48) >>= fun y47 => binM .Add false x46 y47) >>= fun d45 => stN 3 d45 ρ) ρ fun ρ h => .next ρ h)
  (seqS (fun ρ => liftE (((getV ρ 0 >>= fun x71 => pure [] >>= fun l72 => pure (x71 :: l72)) >>= fun l70 => o ("can_be", none) l70) >>= fun x69 => asBool x69) ρ fun c68 h => if c68 then (seqS (fun ρ => liftE ((getV ρ 3 >>= fun x74 => ((((getV ρ 0 >>= fun x80 => pure [] >>= fun l81 => pure (x80 :: l81)) >>= fun l79 => o ("standings", none) l79) >>= fun x77 => (((getV ρ 0 >>= fun x85 => pure [] >>= fun l86 => pure (x85 :: l86)) >>= fun l84 => o ("sure_standings", none) l84) >>= fun x82 => (((getV ρ 0 >>= fun x90 => pure [] >>= fun l91 => pure (x90 :: l91)) >>= fun l89 => o ("sure_pairs", none) l89) >>= fun x87 => pure [] >>= fun l88 => pure (x87 :: l88)) >>= fun l83 => pure (x82 :: l83)) >>= fun l78 => pure (x77 :: l78)) >>= fun l76 => dispM false l76) >>= fun y75 => binM .Add false x74 y75) >>= fun d73 => stN 3 d73 ρ) ρ fun ρ h => .next ρ h)
    (seqS (fun ρ => liftE ((getV ρ 3 >>= fun x93 => ((((((getV ρ 0 >>= fun x102 => pure [] >>= fun l103 => pure (x102 :: l103)) >>= fun l101 => o ("leads", none) l101) >>= fun x99 => (((getV ρ 0 >>= fun x107 => pure [] >>= fun l108 => pure (x107 :: l108)) >>= fun l106 => o ("first_order", none) l106) >>= fun x104 => pure [] >>= fun l105 => pure (x104 :: l105)) >>= fun l100 => pure (x99 :: l100)) >>= fun l98 => dispM false l98) >>= fun x96 => pure [] >>= fun l97 => pure (x96 :: l97)) >>= fun l95 => dispM false l95) >>= fun y94 => binM .Add false x93 y94) >>= fun d92 => stN 3 d92 ρ) ρ fun ρ h => .next ρ h)
    (seqS (fun ρ => liftE ((getV ρ 3 >>= fun x110 => ((((getV ρ 0 >>= fun x117 => pure [] >>= fun l118 => pure (x117 :: l118)) >>= fun l116 => o ("how_many", none) l116) >>= fun x113 => pure (.int 301) >>= fun y114 => cmpM .Lt x113 y114) >>= fun c112 => if c112 then ((((getV ρ 0 >>= fun x123 => pure [] >>= fun l124 => pure (x123 :: l124)) >>= fun l122 => o ("orders", none) l122) >>= fun x120 => pure [] >>= fun l121 => pure (x120 :: l121)) >>= fun l119 => dispM false l119) else (pure [] >>= fun l125 => dispM false l125)) >>= fun y111 => binM .Add false x110 y111) >>= fun d109 => stN 3 d109 ρ) ρ fun ρ h => .next ρ h)
    (fun ρ h => .next ρ h)))) ρ h else (fun ρ h => .next ρ h) ρ h)
  (seqS (fun ρ => liftE (getV ρ 3) ρ fun d h => .ret d h)
  (fun ρ h => .next ρ h))))))
def S_is_place (fl ms : List (Str × Str)) : ClS := fun o => (seqS (fun ρ => liftE ((((getV ρ 0 >>= fun x6 => isiM x6 .tuple >>= fun b7 => pure (.bl b7)) >>= fun x4 => asBool x4) >>= fun b3 => pure (!b3)) >>= fun c2 => if c2 then pure true else ((((getV ρ 0 >>= fun x13 => pure [] >>= fun l14 => pure (x13 :: l14)) >>= fun l12 => b_len l12) >>= fun x9 => pure (.int 2) >>= fun y10 => cmpM .NotEq x9 y10) >>= fun c8 => if c8 then pure true else (((((getV ρ 0 >>= fun x21 => pure (.int 0) >>= fun y22 => idxM x21 y22) >>= fun x19 => (pure (.int 0) >>= fun x23 => (pure (.int 1) >>= fun x25 => pure [] >>= fun l26 => pure (x25 :: l26)) >>= fun l24 => pure (x23 :: l24)) >>= fun l20 => pure (x19 :: l20)) >>= fun l18 => o ("is_whole", none) l18) >>= fun x17 => asBool x17) >>= fun b16 => pure (!b16)))) ρ fun c1 h => if c1 then (seqS (fun ρ => liftE (pure (.bl false)) ρ fun d h => .ret d h)
    (fun ρ h => .next ρ h)) ρ h else (fun ρ h => .next ρ h) ρ h)
  (seqS (fun ρ => liftE (((getV ρ 0 >>= fun x30 => pure (.int 1) >>= fun y31 => idxM x30 y31) >>= fun x28 => (pure (.int 0) >>= fun x32 => ((pure (.int 7) >>= fun x36 => pure (.int 1) >>= fun y37 => binM .Sub false x36 y37) >>= fun x34 => pure [] >>= fun l35 => pure (x34 :: l35)) >>= fun l33 => pure (x32 :: l33)) >>= fun l29 => pure (x28 :: l29)) >>= fun l27 => o ("is_whole", none) l27) ρ fun d h => .ret d h)
  (fun ρ h => .next ρ h)))
def S_need_found (fl ms : List (Str × Str)) : ClS := fun o => (seqS (fun ρ => liftE ((((getV ρ 0 >>= fun x6 => isiM x6 .dict >>= fun b7 => pure (.bl b7)) >>= fun x4 => asBool x4) >>= fun b3 => pure (!b3)) >>= fun c2 => if c2 then pure true else ((((((getV ρ 0 >>= fun x16 => itM x16) >>= fun it14 => M.nox (compIt (turnC (stN 1) (fun ρ => pure true) (fun ρ => ((getV ρ 1 >>= fun x18 => pure [] >>= fun l19 => pure (x18 :: l19)) >>= fun l17 => o ("is_place", none) l17)) (wipeE ρ [1])) it14) >>= fun l15 => newL false l15) >>= fun x12 => pure [] >>= fun l13 => pure (x12 :: l13)) >>= fun l11 => b_all l11) >>= fun x10 => asBool x10) >>= fun b9 => pure (!b9))) ρ fun c1 h => if c1 then (seqS (fun ρ => fun h => .exc "BadFound" ρ h)
    (fun ρ h => .next ρ h)) ρ h else (fun ρ h => .next ρ h) ρ h)
  (seqS (fun ρ => liftE ((((((getV ρ 0 >>= fun x28 => itM x28) >>= fun it26 => M.nox (compIt (turnC (stN 1) (fun ρ => pure true) (fun ρ => (((getV ρ 0 >>= fun x32 => getV ρ 1 >>= fun y33 => idxM x32 y33) >>= fun x30 => (pure (.int 0) >>= fun x34 => (pure (.int 7) >>= fun x36 => pure [] >>= fun l37 => pure (x36 :: l37)) >>= fun l35 => pure (x34 :: l35)) >>= fun l31 => pure (x30 :: l31)) >>= fun l29 => o ("is_whole", none) l29)) (wipeE ρ [1])) it26) >>= fun l27 => newL false l27) >>= fun x24 => pure [] >>= fun l25 => pure (x24 :: l25)) >>= fun l23 => b_all l23) >>= fun x22 => asBool x22) >>= fun b21 => pure (!b21)) ρ fun c20 h => if c20 then (seqS (fun ρ => fun h => .exc "BadFound" ρ h)
    (fun ρ h => .next ρ h)) ρ h else (fun ρ h => .next ρ h) ρ h)
  (fun ρ h => .next ρ h)))
def S_least_of (fl ms : List (Str × Str)) : ClS := fun o => (seqS (fun ρ => liftE (((getV ρ 0 >>= fun x7 => itM x7) >>= fun it2 => M.nox (compIt (turnC (stT [3, 4]) (fun ρ => (getV ρ 3 >>= fun x4 => getV ρ 1 >>= fun y5 => cmpM .Eq x4 y5)) (fun ρ => (getV ρ 4 >>= fun x8 => pure (.int 1) >>= fun y9 => binM .Add false x8 y9)) (wipeE ρ [3, 4])) it2) >>= fun l3 => newL false l3) >>= fun d1 => stN 2 d1 ρ) ρ fun ρ h => .next ρ h)
  (seqS (fun ρ => liftE ((getV ρ 2 >>= fun x12 => ((getV ρ 0 >>= fun x21 => itM x21) >>= fun it14 => M.nox (compIt (turnC (stN 5) (fun ρ => ((getV ρ 5 >>= fun x19 => pure (.int 0) >>= fun y20 => idxM x19 y20) >>= fun x16 => getV ρ 1 >>= fun y17 => cmpM .NotEq x16 y17)) (fun ρ => (getV ρ 0 >>= fun x22 => getV ρ 5 >>= fun y23 => idxM x22 y23)) (wipeE ρ [5])) it14) >>= fun l15 => newL false l15) >>= fun y13 => binM .Add false x12 y13) >>= fun x10 => pure (.int 0) >>= fun y11 => b_defM maxF x10 y11) ρ fun d h => .ret d h)
  (fun ρ h => .next ρ h)))
def L1_part_of (fl ms : List (Str × Str)) (o : Ora) : Env → AH → RS := (seqS (fun ρ => liftE (getV ρ 1 >>= fun x10 => methM ms o "append" x10 (((((((getV ρ 0 >>= fun x21 => (getV ρ 2 >>= fun x23 => pure [] >>= fun l24 => pure (x23 :: l24)) >>= fun l22 => pure (x21 :: l22)) >>= fun l20 => o ("least_of", none) l20) >>= fun x18 => rng1M x18) >>= fun it16 => M.nox (compIt (turnC (stN 3) (fun ρ => pure true) (fun ρ => (getV ρ 0 >>= fun x25 => methM ms o "get" x25 (((getV ρ 2 >>= fun x29 => (getV ρ 3 >>= fun x31 => pure [] >>= fun l32 => pure (x31 :: l32)) >>= fun l30 => pure (x29 :: l30)) >>= fun l28 => tupM l28) >>= fun x26 => pure [] >>= fun l27 => pure (x26 :: l27)))) (wipeE ρ [3])) it16) >>= fun l17 => newL false l17) >>= fun x14 => pure [] >>= fun l15 => pure (x14 :: l15)) >>= fun l13 => b_tuple l13) >>= fun x11 => pure [] >>= fun l12 => pure (x11 :: l12))) ρ fun _ h => .next ρ h)
  (fun ρ h => .next ρ h))
def S_part_of (fl ms : List (Str × Str)) : ClS := fun o => (seqS (fun ρ => liftE ((pure [] >>= fun l2 => dispM true l2) >>= fun d1 => stN 1 d1 ρ) ρ fun ρ h => .next ρ h)
  (seqS (fun ρ => liftE (((pure (.int 0) >>= fun x6 => (pure (.int 1) >>= fun x8 => pure [] >>= fun l9 => pure (x8 :: l9)) >>= fun l7 => pure (x6 :: l7)) >>= fun l5 => tupM l5) >>= fun x4 => itM x4) ρ fun it3 h => loopOf (turnS (stN 2) (L1_part_of fl ms o)) it3 ρ h)
  (seqS (fun ρ => liftE (((getV ρ 1 >>= fun x36 => pure (.int 0) >>= fun y37 => idxM x36 y37) >>= fun x34 => ((getV ρ 1 >>= fun x40 => pure (.int 1) >>= fun y41 => idxM x40 y41) >>= fun x38 => pure [] >>= fun l39 => pure (x38 :: l39)) >>= fun l35 => pure (x34 :: l35)) >>= fun l33 => tupM l33) ρ fun d h => .ret d h)
  (fun ρ h => .next ρ h))))
def S_least_lengths (fl ms : List (Str × Str)) : ClS := fun o => (seqS (fun ρ => liftE ((getV ρ 0 >>= fun x2 => pure [] >>= fun l3 => pure (x2 :: l3)) >>= fun l1 => o ("need_found", none) l1) ρ fun _ h => .next ρ h)
  (seqS (fun ρ => liftE (((getV ρ 0 >>= fun x6 => pure [] >>= fun l7 => pure (x6 :: l7)) >>= fun l5 => o ("part_of", none) l5) >>= fun d4 => stN 1 d4 ρ) ρ fun ρ h => .next ρ h)
  (seqS (fun ρ => liftE ((((getV ρ 1 >>= fun x13 => pure [] >>= fun l14 => pure (x13 :: l14)) >>= fun l12 => o ("count_fits", none) l12) >>= fun x9 => pure (.int 0) >>= fun y10 => cmpM .Gt x9 y10) >>= fun c8 => if c8 then (((((getV ρ 1 >>= fun x21 => pure (.int 0) >>= fun y22 => idxM x21 y22) >>= fun x19 => pure [] >>= fun l20 => pure (x19 :: l20)) >>= fun l18 => b_len l18) >>= fun x16 => ((((getV ρ 1 >>= fun x28 => pure (.int 1) >>= fun y29 => idxM x28 y29) >>= fun x26 => pure [] >>= fun l27 => pure (x26 :: l27)) >>= fun l25 => b_len l25) >>= fun x23 => pure [] >>= fun l24 => pure (x23 :: l24)) >>= fun l17 => pure (x16 :: l17)) >>= fun l15 => tupM l15) else pure .non) ρ fun d h => .ret d h)
  (fun ρ h => .next ρ h))))
def S_seen_at (fl ms : List (Str × Str)) : ClS := fun o => (seqS (fun ρ => liftE ((getV ρ 0 >>= fun x2 => pure [] >>= fun l3 => pure (x2 :: l3)) >>= fun l1 => o ("need_mail", none) l1) ρ fun _ h => .next ρ h)
  (seqS (fun ρ => liftE ((getV ρ 0 >>= fun x5 => (getV ρ 1 >>= fun x7 => pure [] >>= fun l8 => pure (x7 :: l8)) >>= fun l6 => pure (x5 :: l6)) >>= fun l4 => o ("need_letter", none) l4) ρ fun _ h => .next ρ h)
  (seqS (fun ρ => liftE ((getV ρ 0 >>= fun x10 => pure [] >>= fun l11 => pure (x10 :: l11)) >>= fun l9 => o ("need_there", none) l9) ρ fun _ h => .next ρ h)
  (seqS (fun ρ => liftE (getV ρ 1 >>= fun d12 => stT [2, 3] d12 ρ) ρ fun ρ h => .next ρ h)
  (seqS (fun ρ => liftE (((((getV ρ 0 >>= fun x20 => getV ρ 2 >>= fun y21 => idxM x20 y21) >>= fun x17 => pure none >>= fun y18 => ((getV ρ 3 >>= fun x23 => pure (.int 1) >>= fun y24 => binM .Add false x23 y24) >>= fun x22 => partM x22) >>= fun z19 => sliceM false x17 y18 z19) >>= fun x15 => (((getV ρ 0 >>= fun x30 => (pure (.int 1) >>= fun x32 => getV ρ 2 >>= fun y33 => binM .Sub false x32 y33) >>= fun y31 => idxM x30 y31) >>= fun x27 => pure none >>= fun y28 => (((getV ρ 0 >>= fun x37 => getV ρ 2 >>= fun y38 => idxM x37 y38) >>= fun x35 => getV ρ 3 >>= fun y36 => idxM x35 y36) >>= fun x34 => partM x34) >>= fun z29 => sliceM false x27 y28 z29) >>= fun x25 => pure [] >>= fun l26 => pure (x25 :: l26)) >>= fun l16 => pure (x15 :: l16)) >>= fun l14 => tupM l14) >>= fun d13 => stT [4, 5] d13 ρ) ρ fun ρ h => .next ρ h)
  (seqS (fun ρ => liftE ((getV ρ 2 >>= fun x40 => pure (.int 0) >>= fun y41 => cmpM .Eq x40 y41) >>= fun c39 => if c39 then ((getV ρ 4 >>= fun x44 => (getV ρ 5 >>= fun x46 => pure [] >>= fun l47 => pure (x46 :: l47)) >>= fun l45 => pure (x44 :: l45)) >>= fun l43 => tupM l43) else ((getV ρ 5 >>= fun x49 => (getV ρ 4 >>= fun x51 => pure [] >>= fun l52 => pure (x51 :: l52)) >>= fun l50 => pure (x49 :: l50)) >>= fun l48 => tupM l48)) ρ fun d h => .ret d h)
  (fun ρ h => .next ρ h)))))))
def L1_known (fl ms : List (Str × Str)) (o : Ora) : Env → AH → RS := (seqS (fun ρ => liftE (getV ρ 3 >>= fun x11 => pure (.int 0) >>= fun y12 => cmpM .Eq x11 y12) ρ fun c10 h => if c10 then (seqS (fun ρ => liftE (pure (.int 0)) ρ fun d h => .ret d h)
    (fun ρ h => .next ρ h)) ρ h else (fun ρ h => .next ρ h) ρ h)
  (seqS (fun ρ => liftE ((pure (.int 1) >>= fun x15 => getV ρ 5 >>= fun y16 => binM .Sub false x15 y16) >>= fun d14 => stN 5 d14 ρ) ρ fun ρ h => .next ρ h)
  (seqS (fun ρ => liftE (((getV ρ 0 >>= fun x20 => getV ρ 5 >>= fun y21 => idxM x20 y21) >>= fun x18 => (getV ρ 3 >>= fun x22 => pure (.int 1) >>= fun y23 => binM .Sub false x22 y23) >>= fun y19 => idxM x18 y19) >>= fun d17 => stN 3 d17 ρ) ρ fun ρ h => .next ρ h)
  (fun ρ h => .next ρ h))))
def S_known (fl ms : List (Str × Str)) : ClS := fun o => (seqS (fun ρ => liftE (getV ρ 1 >>= fun d1 => stT [5, 6] d1 ρ) ρ fun ρ h => .next ρ h)
  (seqS (fun ρ => liftE (((getV ρ 0 >>= fun x5 => getV ρ 5 >>= fun y6 => idxM x5 y6) >>= fun x3 => getV ρ 6 >>= fun y4 => idxM x3 y4) >>= fun d2 => stN 3 d2 ρ) ρ fun ρ h => .next ρ h)
  (seqS (fun ρ => liftE (getV ρ 2 >>= fun x8 => rng1M x8) ρ fun it7 h => loopOf (turnS (stN 4) (L1_known fl ms o)) it7 ρ h)
  (seqS (fun ρ => liftE (getV ρ 3) ρ fun d h => .ret d h)
  (fun ρ h => .next ρ h)))))
def S_knows (fl ms : List (Str × Str)) : ClS := fun o => (seqS (fun ρ => liftE ((getV ρ 0 >>= fun x2 => pure [] >>= fun l3 => pure (x2 :: l3)) >>= fun l1 => o ("need_mail", none) l1) ρ fun _ h => .next ρ h)
  (seqS (fun ρ => liftE ((getV ρ 0 >>= fun x5 => (getV ρ 1 >>= fun x7 => pure [] >>= fun l8 => pure (x7 :: l8)) >>= fun l6 => pure (x5 :: l6)) >>= fun l4 => o ("need_letter", none) l4) ρ fun _ h => .next ρ h)
  (seqS (fun ρ => liftE ((((getV ρ 2 >>= fun x13 => (pure (.int 0) >>= fun x15 => (pure (.int 20) >>= fun x17 => pure [] >>= fun l18 => pure (x17 :: l18)) >>= fun l16 => pure (x15 :: l16)) >>= fun l14 => pure (x13 :: l14)) >>= fun l12 => o ("is_whole", none) l12) >>= fun x11 => asBool x11) >>= fun b10 => pure (!b10)) ρ fun c9 h => if c9 then (seqS (fun ρ => fun h => .exc "BadNumber" ρ h)
    (fun ρ h => .next ρ h)) ρ h else (fun ρ h => .next ρ h) ρ h)
  (seqS (fun ρ => liftE ((getV ρ 0 >>= fun x20 => pure [] >>= fun l21 => pure (x20 :: l21)) >>= fun l19 => o ("need_there", none) l19) ρ fun _ h => .next ρ h)
  (seqS (fun ρ => liftE ((getV ρ 0 >>= fun x23 => (getV ρ 1 >>= fun x25 => (getV ρ 2 >>= fun x27 => pure [] >>= fun l28 => pure (x27 :: l28)) >>= fun l26 => pure (x25 :: l26)) >>= fun l24 => pure (x23 :: l24)) >>= fun l22 => o ("known", none) l22) ρ fun d h => .ret d h)
  (fun ρ h => .next ρ h))))))
def S_deepest (fl ms : List (Str × Str)) : ClS := fun o => (seqS (fun ρ => liftE ((getV ρ 0 >>= fun x2 => pure [] >>= fun l3 => pure (x2 :: l3)) >>= fun l1 => o ("need_mail", none) l1) ρ fun _ h => .next ρ h)
  (seqS (fun ρ => liftE ((getV ρ 0 >>= fun x5 => (getV ρ 1 >>= fun x7 => pure [] >>= fun l8 => pure (x7 :: l8)) >>= fun l6 => pure (x5 :: l6)) >>= fun l4 => o ("need_letter", none) l4) ρ fun _ h => .next ρ h)
  (seqS (fun ρ => liftE ((getV ρ 0 >>= fun x10 => pure [] >>= fun l11 => pure (x10 :: l11)) >>= fun l9 => o ("need_there", none) l9) ρ fun _ h => .next ρ h)
  (seqS (fun ρ => liftE ((((pure (.int 20) >>= fun x27 => pure (.int 1) >>= fun y28 => binM .Add false x27 y28) >>= fun x25 => rng1M x25) >>= fun it13 => M.nox (compIt (turnC (stN 3) (fun ρ => (((getV ρ 0 >>= fun x19 => (getV ρ 1 >>= fun x21 => (getV ρ 3 >>= fun x23 => pure [] >>= fun l24 => pure (x23 :: l24)) >>= fun l22 => pure (x21 :: l22)) >>= fun l20 => pure (x19 :: l20)) >>= fun l18 => o ("known", none) l18) >>= fun x15 => pure (.int 0) >>= fun y16 => cmpM .Gt x15 y16)) (fun ρ => getV ρ 3) (wipeE ρ [3])) it13) >>= fun l14 => newL false l14) >>= fun d12 => stN 2 d12 ρ) ρ fun ρ h => .next ρ h)
  (seqS (fun ρ => liftE (getV ρ 2 >>= fun x29 => pure .non >>= fun y30 => b_defM maxF x29 y30) ρ fun d h => .ret d h)
  (fun ρ h => .next ρ h))))))
def L1__law_known_right (fl ms : List (Str × Str)) (o : Ora) : Env → AH → RS := (seqS (fun ρ => liftE ((getV ρ 2 >>= fun x42 => getV ρ 3 >>= fun y43 => idxM x42 y43) >>= fun x39 => ((getV ρ 7 >>= fun x45 => pure (.int 0) >>= fun y46 => cmpM .Gt x45 y46) >>= fun c44 => if c44 then ((getV ρ 0 >>= fun x49 => ((((pure (.int 1) >>= fun x56 => getV ρ 6 >>= fun y57 => binM .Sub false x56 y57) >>= fun x54 => ((getV ρ 7 >>= fun x60 => pure (.int 1) >>= fun y61 => binM .Sub false x60 y61) >>= fun x58 => pure [] >>= fun l59 => pure (x58 :: l59)) >>= fun l55 => pure (x54 :: l55)) >>= fun l53 => tupM l53) >>= fun x51 => ((getV ρ 3 >>= fun x64 => pure (.int 1) >>= fun y65 => binM .Sub false x64 y65) >>= fun x62 => pure [] >>= fun l63 => pure (x62 :: l63)) >>= fun l52 => pure (x51 :: l52)) >>= fun l50 => pure (x49 :: l50)) >>= fun l48 => o ("knows", none) l48) else pure (.int 0)) >>= fun y40 => cmpM .NotEq x39 y40) ρ fun c38 h => if c38 then (seqS (fun ρ => liftE (pure (.bl false)) ρ fun d h => .ret d h)
    (fun ρ h => .next ρ h)) ρ h else (fun ρ h => .next ρ h) ρ h)
  (fun ρ h => .next ρ h))
def L2__law_known_right (fl ms : List (Str × Str)) (o : Ora) : Env → AH → RS := (seqS (fun ρ => liftE (((getV ρ 2 >>= fun x74 => getV ρ 3 >>= fun y75 => idxM x74 y75) >>= fun x71 => (getV ρ 2 >>= fun x76 => (getV ρ 3 >>= fun x78 => pure (.int 2) >>= fun y79 => binM .Sub false x78 y79) >>= fun y77 => idxM x76 y77) >>= fun y72 => cmpM .GtE x71 y72) >>= fun c70 => if c70 then ((getV ρ 2 >>= fun x84 => getV ρ 3 >>= fun y85 => idxM x84 y85) >>= fun x81 => pure (.int 0) >>= fun y82 => cmpM .Gt x81 y82) else pure false) ρ fun c69 h => if c69 then (seqS (fun ρ => liftE (pure (.bl false)) ρ fun d h => .ret d h)
    (fun ρ h => .next ρ h)) ρ h else (fun ρ h => .next ρ h) ρ h)
  (fun ρ h => .next ρ h))
def L3__law_known_right (fl ms : List (Str × Str)) (o : Ora) : Env → AH → RS := (seqS (fun ρ => liftE (((getV ρ 6 >>= fun x161 => pure (.int 0) >>= fun y162 => cmpM .Eq x161 y162) >>= fun c160 => if c160 then ((getV ρ 8 >>= fun x165 => ((getV ρ 9 >>= fun x169 => ((getV ρ 5 >>= fun x172 => pure [] >>= fun l173 => pure (x172 :: l173)) >>= fun l171 => tupM l171) >>= fun y170 => binM .Add false x169 y170) >>= fun x167 => pure [] >>= fun l168 => pure (x167 :: l168)) >>= fun l166 => pure (x165 :: l166)) >>= fun l164 => tupM l164) else (((getV ρ 9 >>= fun x177 => ((getV ρ 5 >>= fun x180 => pure [] >>= fun l181 => pure (x180 :: l181)) >>= fun l179 => tupM l179) >>= fun y178 => binM .Add false x177 y178) >>= fun x175 => (getV ρ 8 >>= fun x182 => pure [] >>= fun l183 => pure (x182 :: l183)) >>= fun l176 => pure (x175 :: l176)) >>= fun l174 => tupM l174)) >>= fun d159 => stN 10 d159 ρ) ρ fun ρ h => .next ρ h)
  (seqS (fun ρ => liftE ((((getV ρ 10 >>= fun x190 => pure [] >>= fun l191 => pure (x190 :: l191)) >>= fun l189 => o ("is_mail", none) l189) >>= fun x186 => pure (.bl true) >>= fun y187 => cmpM .IsNot x186 y187) >>= fun c185 => if c185 then pure true else (((getV ρ 10 >>= fun x197 => pure [] >>= fun l198 => pure (x197 :: l198)) >>= fun l196 => o ("can_be", none) l196) >>= fun x193 => pure (.bl true) >>= fun y194 => cmpM .IsNot x193 y194)) ρ fun c184 h => if c184 then (seqS (fun ρ => liftE (pure (.bl false)) ρ fun d h => .ret d h)
    (fun ρ h => .next ρ h)) ρ h else (fun ρ h => .next ρ h) ρ h)
  (fun ρ h => .next ρ h)))
def S__law_known_right (fl ms : List (Str × Str)) : ClS := fun o => (seqS (fun ρ => liftE ((((getV ρ 1 >>= fun x5 => pure (.int 0) >>= fun y6 => idxM x5 y6) >>= fun x3 => (((getV ρ 0 >>= fun x11 => (getV ρ 1 >>= fun x13 => pure (.int 0) >>= fun y14 => idxM x13 y14) >>= fun y12 => idxM x11 y12) >>= fun x9 => (getV ρ 1 >>= fun x15 => pure (.int 1) >>= fun y16 => idxM x15 y16) >>= fun y10 => idxM x9 y10) >>= fun x7 => pure [] >>= fun l8 => pure (x7 :: l8)) >>= fun l4 => pure (x3 :: l4)) >>= fun l2 => tupM l2) >>= fun d1 => stT [6, 7] d1 ρ) ρ fun ρ h => .next ρ h)
  (seqS (fun ρ => liftE (((pure (.int 21) >>= fun x20 => rng1M x20) >>= fun it18 => M.nox (compIt (turnC (stN 3) (fun ρ => pure true) (fun ρ => ((getV ρ 0 >>= fun x23 => (getV ρ 1 >>= fun x25 => (getV ρ 3 >>= fun x27 => pure [] >>= fun l28 => pure (x27 :: l28)) >>= fun l26 => pure (x25 :: l26)) >>= fun l24 => pure (x23 :: l24)) >>= fun l22 => o ("knows", none) l22)) (wipeE ρ [3])) it18) >>= fun l19 => newL false l19) >>= fun d17 => stN 2 d17 ρ) ρ fun ρ h => .next ρ h)
  (seqS (fun ρ => liftE ((getV ρ 2 >>= fun x33 => pure (.int 0) >>= fun y34 => idxM x33 y34) >>= fun x30 => getV ρ 7 >>= fun y31 => cmpM .NotEq x30 y31) ρ fun c29 h => if c29 then (seqS (fun ρ => liftE (pure (.bl false)) ρ fun d h => .ret d h)
    (fun ρ h => .next ρ h)) ρ h else (fun ρ h => .next ρ h) ρ h)
  (seqS (fun ρ => liftE (pure (.int 1) >>= fun x36 => pure (.int 21) >>= fun y37 => rng2M x36 y37) ρ fun it35 h => loopOf (turnS (stN 3) (L1__law_known_right fl ms o)) it35 ρ h)
  (seqS (fun ρ => liftE (pure (.int 2) >>= fun x67 => pure (.int 21) >>= fun y68 => rng2M x67 y68) ρ fun it66 h => loopOf (turnS (stN 3) (L2__law_known_right fl ms o)) it66 ρ h)
  (seqS (fun ρ => liftE (((pure (.int 21) >>= fun x94 => rng1M x94) >>= fun it87 => M.nox (compIt (turnC (stN 3) (fun ρ => ((getV ρ 2 >>= fun x92 => getV ρ 3 >>= fun y93 => idxM x92 y93) >>= fun x89 => pure (.int 0) >>= fun y90 => cmpM .Gt x89 y90)) (fun ρ => getV ρ 3) (wipeE ρ [3])) it87) >>= fun l88 => newL false l88) >>= fun d86 => stN 4 d86 ρ) ρ fun ρ h => .next ρ h)
  (seqS (fun ρ => liftE (((getV ρ 0 >>= fun x101 => (getV ρ 1 >>= fun x103 => pure [] >>= fun l104 => pure (x103 :: l104)) >>= fun l102 => pure (x101 :: l102)) >>= fun l100 => o ("deepest", none) l100) >>= fun x97 => ((getV ρ 4 >>= fun x106 => (pure [] >>= fun l109 => dispM false l109) >>= fun y107 => cmpM .NotEq x106 y107) >>= fun c105 => if c105 then (getV ρ 4 >>= fun x110 => (pure (.int 1) >>= fun x112 => negM x112) >>= fun y111 => idxM x110 y111) else pure .non) >>= fun y98 => cmpM .NotEq x97 y98) ρ fun c96 h => if c96 then (seqS (fun ρ => liftE (pure (.bl false)) ρ fun d h => .ret d h)
    (fun ρ h => .next ρ h)) ρ h else (fun ρ h => .next ρ h) ρ h)
  (seqS (fun ρ => liftE (getV ρ 4 >>= fun x114 => (((getV ρ 4 >>= fun x121 => pure [] >>= fun l122 => pure (x121 :: l122)) >>= fun l120 => b_len l120) >>= fun x118 => lstRg false x118) >>= fun y115 => cmpM .NotEq x114 y115) ρ fun c113 h => if c113 then (seqS (fun ρ => liftE (pure (.bl false)) ρ fun d h => .ret d h)
    (fun ρ h => .next ρ h)) ρ h else (fun ρ h => .next ρ h) ρ h)
  (seqS (fun ρ => liftE (((((getV ρ 0 >>= fun x130 => getV ρ 6 >>= fun y131 => idxM x130 y131) >>= fun x127 => pure none >>= fun y128 => (((getV ρ 1 >>= fun x135 => pure (.int 1) >>= fun y136 => idxM x135 y136) >>= fun x133 => pure (.int 1) >>= fun y134 => binM .Add false x133 y134) >>= fun x132 => partM x132) >>= fun z129 => sliceM false x127 y128 z129) >>= fun x125 => (((getV ρ 0 >>= fun x142 => (pure (.int 1) >>= fun x144 => getV ρ 6 >>= fun y145 => binM .Sub false x144 y145) >>= fun y143 => idxM x142 y143) >>= fun x139 => pure none >>= fun y140 => (getV ρ 7 >>= fun x146 => partM x146) >>= fun z141 => sliceM false x139 y140 z141) >>= fun x137 => pure [] >>= fun l138 => pure (x137 :: l138)) >>= fun l126 => pure (x125 :: l126)) >>= fun l124 => tupM l124) >>= fun d123 => stT [8, 9] d123 ρ) ρ fun ρ h => .next ρ h)
  (seqS (fun ρ => liftE ((getV ρ 2 >>= fun x150 => pure (.int 1) >>= fun y151 => idxM x150 y151) >>= fun x148 => ((getV ρ 7 >>= fun x153 => pure (.int 7) >>= fun y154 => cmpM .Lt x153 y154) >>= fun c152 => if c152 then ((getV ρ 8 >>= fun x157 => pure [] >>= fun l158 => pure (x157 :: l158)) >>= fun l156 => b_len l156) else pure (.int 0)) >>= fun y149 => rng2M x148 y149) ρ fun it147 h => loopOf (turnS (stN 5) (L3__law_known_right fl ms o)) it147 ρ h)
  (seqS (fun ρ => liftE (pure (.bl true)) ρ fun d h => .ret d h)
  (fun ρ h => .next ρ h))))))))))))
def S_talk_to (fl ms : List (Str × Str)) : ClS := fun o => (seqS (fun ρ => liftE (((((getV ρ 0 >>= fun x14 => pure [] >>= fun l15 => pure (x14 :: l15)) >>= fun l13 => o ("all_letters", none) l13) >>= fun x12 => itM x12) >>= fun it2 => M.nox (compIt (turnC (stN 3) (fun ρ => (((getV ρ 0 >>= fun x6 => (getV ρ 1 >>= fun x8 => (getV ρ 3 >>= fun x10 => pure [] >>= fun l11 => pure (x10 :: l11)) >>= fun l9 => pure (x8 :: l9)) >>= fun l7 => pure (x6 :: l7)) >>= fun l5 => o ("has_read", none) l5) >>= fun x4 => asBool x4)) (fun ρ => getV ρ 3) (wipeE ρ [3])) it2) >>= fun l3 => newL false l3) >>= fun d1 => stN 2 d1 ρ) ρ fun ρ h => .next ρ h)
  (seqS (fun ρ => liftE (pure (.int 1) >>= fun x16 => ((((getV ρ 2 >>= fun x23 => ((pure (.int 1) >>= fun x27 => negM x27) >>= fun x26 => partM x26) >>= fun y24 => pure none >>= fun z25 => sliceM false x23 y24 z25) >>= fun x22 => itM x22) >>= fun it20 => M.nox (compIt (turnC (stN 3) (fun ρ => pure true) (fun ρ => ((getV ρ 0 >>= fun x29 => (getV ρ 3 >>= fun x31 => pure [] >>= fun l32 => pure (x31 :: l32)) >>= fun l30 => pure (x29 :: l30)) >>= fun l28 => o ("talk_to", none) l28)) (wipeE ρ [3])) it20) >>= fun l21 => newL false l21) >>= fun x18 => pure (.int 0) >>= fun y19 => b_defM maxF x18 y19) >>= fun y17 => binM .Add false x16 y17) ρ fun d h => .ret d h)
  (fun ρ h => .next ρ h)))
def S_longest_talk (fl ms : List (Str × Str)) : ClS := fun o => (seqS (fun ρ => liftE ((getV ρ 0 >>= fun x2 => pure [] >>= fun l3 => pure (x2 :: l3)) >>= fun l1 => o ("need_mail", none) l1) ρ fun _ h => .next ρ h)
  (seqS (fun ρ => liftE ((getV ρ 0 >>= fun x5 => pure [] >>= fun l6 => pure (x5 :: l6)) >>= fun l4 => o ("need_there", none) l4) ρ fun _ h => .next ρ h)
  (seqS (fun ρ => liftE (((((getV ρ 0 >>= fun x13 => pure [] >>= fun l14 => pure (x13 :: l14)) >>= fun l12 => o ("all_letters", none) l12) >>= fun x11 => itM x11) >>= fun it9 => M.nox (compIt (turnC (stN 1) (fun ρ => pure true) (fun ρ => ((getV ρ 0 >>= fun x16 => (getV ρ 1 >>= fun x18 => pure [] >>= fun l19 => pure (x18 :: l19)) >>= fun l17 => pure (x16 :: l17)) >>= fun l15 => o ("talk_to", none) l15)) (wipeE ρ [1])) it9) >>= fun l10 => newL false l10) >>= fun x7 => pure (.int 0) >>= fun y8 => b_defM maxF x7 y8) ρ fun d h => .ret d h)
  (fun ρ h => .next ρ h))))
def S_how_many_wanting (fl ms : List (Str × Str)) : ClS := fun o => (seqS (fun ρ => liftE ((getV ρ 0 >>= fun x2 => pure [] >>= fun l3 => pure (x2 :: l3)) >>= fun l1 => o ("need_found", none) l1) ρ fun _ h => .next ρ h)
  (seqS (fun ρ => liftE (((getV ρ 0 >>= fun x6 => pure [] >>= fun l7 => pure (x6 :: l7)) >>= fun l5 => o ("part_of", none) l5) >>= fun d4 => stN 1 d4 ρ) ρ fun ρ h => .next ρ h)
  (seqS (fun ρ => liftE ((((getV ρ 1 >>= fun x13 => pure [] >>= fun l14 => pure (x13 :: l14)) >>= fun l12 => o ("count_fits", none) l12) >>= fun x9 => pure (.int 0) >>= fun y10 => cmpM .Gt x9 y10) >>= fun c8 => if c8 then (((((getV ρ 1 >>= fun x22 => pure (.int 0) >>= fun y23 => idxM x22 y23) >>= fun x20 => pure [] >>= fun l21 => pure (x20 :: l21)) >>= fun l19 => b_len l19) >>= fun x17 => (((getV ρ 1 >>= fun x27 => pure (.int 1) >>= fun y28 => idxM x27 y28) >>= fun x25 => pure [] >>= fun l26 => pure (x25 :: l26)) >>= fun l24 => b_len l24) >>= fun y18 => binM .Add false x17 y18) >>= fun x15 => ((getV ρ 0 >>= fun x30 => pure [] >>= fun l31 => pure (x30 :: l31)) >>= fun l29 => b_len l29) >>= fun y16 => binM .Sub false x15 y16) else pure .non) ρ fun d h => .ret d h)
  (fun ρ h => .next ρ h))))
def S_how_many_fills (fl ms : List (Str × Str)) : ClS := fun o => (seqS (fun ρ => liftE ((getV ρ 0 >>= fun x2 => pure [] >>= fun l3 => pure (x2 :: l3)) >>= fun l1 => o ("need_found", none) l1) ρ fun _ h => .next ρ h)
  (seqS (fun ρ => liftE ((((getV ρ 0 >>= fun x8 => pure [] >>= fun l9 => pure (x8 :: l9)) >>= fun l7 => o ("part_of", none) l7) >>= fun x5 => pure [] >>= fun l6 => pure (x5 :: l6)) >>= fun l4 => o ("count_fits", none) l4) ρ fun d h => .ret d h)
  (fun ρ h => .next ρ h)))
def L1__law_has (fl ms : List (Str × Str)) (o : Ora) : Env → AH → RS := (seqS (fun ρ => liftE ((getV ρ 0 >>= fun x4 => (getV ρ 2 >>= fun x6 => pure (.int 0) >>= fun y7 => idxM x6 y7) >>= fun y5 => idxM x4 y5) >>= fun d3 => stN 3 d3 ρ) ρ fun ρ h => .next ρ h)
  (seqS (fun ρ => liftE (((getV ρ 2 >>= fun x13 => pure (.int 1) >>= fun y14 => idxM x13 y14) >>= fun x10 => ((getV ρ 3 >>= fun x16 => pure [] >>= fun l17 => pure (x16 :: l17)) >>= fun l15 => b_len l15) >>= fun y11 => cmpM .GtE x10 y11) >>= fun c9 => if c9 then pure true else ((getV ρ 3 >>= fun x22 => (getV ρ 2 >>= fun x24 => pure (.int 1) >>= fun y25 => idxM x24 y25) >>= fun y23 => idxM x22 y23) >>= fun x19 => (getV ρ 1 >>= fun x26 => getV ρ 2 >>= fun y27 => idxM x26 y27) >>= fun y20 => cmpM .NotEq x19 y20)) ρ fun c8 h => if c8 then (seqS (fun ρ => liftE (pure (.bl false)) ρ fun d h => .ret d h)
    (fun ρ h => .next ρ h)) ρ h else (fun ρ h => .next ρ h) ρ h)
  (fun ρ h => .next ρ h)))
def S__law_has (fl ms : List (Str × Str)) : ClS := fun o => (seqS (fun ρ => liftE (getV ρ 1 >>= fun x2 => itM x2) ρ fun it1 h => loopOf (turnS (stN 2) (L1__law_has fl ms o)) it1 ρ h)
  (seqS (fun ρ => liftE (pure (.bl true)) ρ fun d h => .ret d h)
  (fun ρ h => .next ρ h)))
def L2_longest_row (fl ms : List (Str × Str)) (o : Ora) : Env → AH → RS := (seqS (fun ρ => liftE (((((getV ρ 6 >>= fun x70 => (getV ρ 1 >>= fun x72 => pure [] >>= fun l73 => pure (x72 :: l73)) >>= fun l71 => pure (x70 :: l71)) >>= fun l69 => o ("after", none) l69) >>= fun x67 => ((getV ρ 7 >>= fun x76 => pure (.int 1) >>= fun y77 => binM .Add false x76 y77) >>= fun x74 => pure [] >>= fun l75 => pure (x74 :: l75)) >>= fun l68 => pure (x67 :: l68)) >>= fun l66 => tupM l66) >>= fun d65 => stT [6, 7] d65 ρ) ρ fun ρ h => .next ρ h)
  (fun ρ h => .next ρ h))
def L1_longest_row (fl ms : List (Str × Str)) (o : Ora) : Env → AH → RS := (seqS (fun ρ => liftE (((getV ρ 2 >>= fun x41 => (pure (.int 0) >>= fun x43 => pure [] >>= fun l44 => pure (x43 :: l44)) >>= fun l42 => pure (x41 :: l42)) >>= fun l40 => tupM l40) >>= fun d39 => stT [6, 7] d39 ρ) ρ fun ρ h => .next ρ h)
  (seqS (fun ρ => whileM (fun ρ => ((((getV ρ 0 >>= fun x48 => (getV ρ 6 >>= fun x50 => (getV ρ 1 >>= fun x52 => pure [] >>= fun l53 => pure (x52 :: l53)) >>= fun l51 => pure (x50 :: l51)) >>= fun l49 => pure (x48 :: l49)) >>= fun l47 => o ("may_write", none) l47) >>= fun x46 => asBool x46) >>= fun c45 => if c45 then ((getV ρ 3 >>= fun x58 => ((getV ρ 6 >>= fun x61 => (getV ρ 1 >>= fun x63 => pure [] >>= fun l64 => pure (x63 :: l64)) >>= fun l62 => pure (x61 :: l62)) >>= fun l60 => o ("after", none) l60) >>= fun y59 => idxM x58 y59) >>= fun x55 => pure (.int 0) >>= fun y56 => cmpM .Gt x55 y56) else pure false)) (L2_longest_row fl ms o) 1000 ρ)
  (seqS (fun ρ => liftE (((getV ρ 4 >>= fun x80 => (getV ρ 7 >>= fun x82 => pure [] >>= fun l83 => pure (x82 :: l83)) >>= fun l81 => pure (x80 :: l81)) >>= fun l79 => b_max l79) >>= fun d78 => stN 4 d78 ρ) ρ fun ρ h => .next ρ h)
  (fun ρ h => .next ρ h))))
def S_longest_row (fl ms : List (Str × Str)) : ClS := fun o => (seqS (fun ρ => liftE ((getV ρ 0 >>= fun x2 => pure [] >>= fun l3 => pure (x2 :: l3)) >>= fun l1 => o ("need_mail", none) l1) ρ fun _ h => .next ρ h)
  (seqS (fun ρ => liftE ((((getV ρ 1 >>= fun x8 => (pure (.int 0) >>= fun x10 => (pure (.int 1) >>= fun x12 => pure [] >>= fun l13 => pure (x12 :: l13)) >>= fun l11 => pure (x10 :: l11)) >>= fun l9 => pure (x8 :: l9)) >>= fun l7 => o ("is_whole", none) l7) >>= fun x6 => asBool x6) >>= fun b5 => pure (!b5)) ρ fun c4 h => if c4 then (seqS (fun ρ => fun h => .exc "BadLetter" ρ h)
    (fun ρ h => .next ρ h)) ρ h else (fun ρ h => .next ρ h) ρ h)
  (seqS (fun ρ => liftE ((getV ρ 0 >>= fun x15 => pure [] >>= fun l16 => pure (x15 :: l16)) >>= fun l14 => o ("need_there", none) l14) ρ fun _ h => .next ρ h)
  (seqS (fun ρ => liftE (((((getV ρ 0 >>= fun x22 => pure [] >>= fun l23 => pure (x22 :: l23)) >>= fun l21 => o ("passing", none) l21) >>= fun x19 => (pure (.int 0) >>= fun x24 => pure [] >>= fun l25 => pure (x24 :: l25)) >>= fun l20 => pure (x19 :: l20)) >>= fun l18 => tupM l18) >>= fun d17 => stT [3, 4] d17 ρ) ρ fun ρ h => .next ρ h)
  (seqS (fun ρ => liftE (((((getV ρ 0 >>= fun x37 => pure [] >>= fun l38 => pure (x37 :: l38)) >>= fun l36 => o ("all_standings", none) l36) >>= fun x35 => itM x35) >>= fun it28 => M.nox (compIt (turnC (stN 5) (fun ρ => ((getV ρ 3 >>= fun x33 => getV ρ 5 >>= fun y34 => idxM x33 y34) >>= fun x30 => pure (.int 0) >>= fun y31 => cmpM .Gt x30 y31)) (fun ρ => getV ρ 5) (wipeE ρ [5])) it28) >>= fun l29 => newL false l29) >>= fun x27 => itM x27) ρ fun it26 h => loopOf (turnS (stN 2) (L1_longest_row fl ms o)) it26 ρ h)
  (seqS (fun ρ => liftE (getV ρ 4) ρ fun d h => .ret d h)
  (fun ρ h => .next ρ h)))))))
def L3_fewest_turns (fl ms : List (Str × Str)) (o : Ora) : Env → AH → RS := (seqS (fun ρ => liftE (((getV ρ 5 >>= fun x106 => (getV ρ 7 >>= fun x108 => pure [] >>= fun l109 => pure (x108 :: l109)) >>= fun l107 => pure (x106 :: l107)) >>= fun l105 => tupM l105) >>= fun x102 => getV ρ 3 >>= fun y103 => cmpM .In x102 y103) ρ fun c101 h => if c101 then (seqS (fun ρ => liftE (getV ρ 6 >>= fun x110 => methM ms o "append" x110 (((getV ρ 3 >>= fun x115 => ((getV ρ 5 >>= fun x118 => (getV ρ 7 >>= fun x120 => pure [] >>= fun l121 => pure (x120 :: l121)) >>= fun l119 => pure (x118 :: l119)) >>= fun l117 => tupM l117) >>= fun y116 => idxM x115 y116) >>= fun x113 => ((getV ρ 7 >>= fun x123 => getV ρ 4 >>= fun y124 => cmpM .NotEq x123 y124) >>= fun c122 => if c122 then pure (.int 1) else pure (.int 0)) >>= fun y114 => binM .Add false x113 y114) >>= fun x111 => pure [] >>= fun l112 => pure (x111 :: l112))) ρ fun _ h => .next ρ h)
    (fun ρ h => .next ρ h)) ρ h else (fun ρ h => .next ρ h) ρ h)
  (fun ρ h => .next ρ h))
def L2_fewest_turns (fl ms : List (Str × Str)) (o : Ora) : Env → AH → RS := (seqS (fun ρ => liftE (((getV ρ 4 >>= fun x30 => pure (.int 0) >>= fun y31 => cmpM .Eq x30 y31) >>= fun c29 => if c29 then ((((getV ρ 1 >>= fun x38 => pure (.int 0) >>= fun y39 => idxM x38 y39) >>= fun x36 => pure (.int 1) >>= fun y37 => binM .Sub false x36 y37) >>= fun x34 => ((getV ρ 1 >>= fun x42 => pure (.int 1) >>= fun y43 => idxM x42 y43) >>= fun x40 => pure [] >>= fun l41 => pure (x40 :: l41)) >>= fun l35 => pure (x34 :: l35)) >>= fun l33 => tupM l33) else (((getV ρ 1 >>= fun x47 => pure (.int 0) >>= fun y48 => idxM x47 y48) >>= fun x45 => (((getV ρ 1 >>= fun x53 => pure (.int 1) >>= fun y54 => idxM x53 y54) >>= fun x51 => pure (.int 1) >>= fun y52 => binM .Sub false x51 y52) >>= fun x49 => pure [] >>= fun l50 => pure (x49 :: l50)) >>= fun l46 => pure (x45 :: l46)) >>= fun l44 => tupM l44)) >>= fun d28 => stN 5 d28 ρ) ρ fun ρ h => .next ρ h)
  (seqS (fun ρ => liftE (((getV ρ 2 >>= fun x60 => getV ρ 1 >>= fun y61 => idxM x60 y61) >>= fun x57 => pure (.int 0) >>= fun y58 => cmpM .Gt x57 y58) >>= fun c56 => if c56 then (((getV ρ 2 >>= fun x66 => methM ms o "get" x66 (getV ρ 5 >>= fun x67 => (pure (.int 0) >>= fun x69 => pure [] >>= fun l70 => pure (x69 :: l70)) >>= fun l68 => pure (x67 :: l68))) >>= fun x63 => pure (.int 0) >>= fun y64 => cmpM .Gt x63 y64) >>= fun c62 => if c62 then (((getV ρ 0 >>= fun x74 => (getV ρ 5 >>= fun x76 => (getV ρ 4 >>= fun x78 => pure [] >>= fun l79 => pure (x78 :: l79)) >>= fun l77 => pure (x76 :: l77)) >>= fun l75 => pure (x74 :: l75)) >>= fun l73 => o ("may_write", none) l73) >>= fun x72 => asBool x72) else pure false) else pure false) ρ fun c55 h => if c55 then (seqS (fun ρ => liftE (((getV ρ 5 >>= fun x82 => ((pure (.int 0) >>= fun x86 => (pure (.int 0) >>= fun x88 => pure [] >>= fun l89 => pure (x88 :: l89)) >>= fun l87 => pure (x86 :: l87)) >>= fun l85 => tupM l85) >>= fun y83 => cmpM .Eq x82 y83) >>= fun c81 => if c81 then ((pure (.int 0) >>= fun x91 => pure [] >>= fun l92 => pure (x91 :: l92)) >>= fun l90 => dispM true l90) else (pure [] >>= fun l93 => dispM true l93)) >>= fun d80 => stN 6 d80 ρ) ρ fun ρ h => .next ρ h)
    (seqS (fun ρ => liftE (((pure (.int 0) >>= fun x97 => (pure (.int 1) >>= fun x99 => pure [] >>= fun l100 => pure (x99 :: l100)) >>= fun l98 => pure (x97 :: l98)) >>= fun l96 => tupM l96) >>= fun x95 => itM x95) ρ fun it94 h => loopOf (turnS (stN 7) (L3_fewest_turns fl ms o)) it94 ρ h)
    (seqS (fun ρ => liftE (getV ρ 6 >>= fun x127 => (pure [] >>= fun l130 => dispM false l130) >>= fun y128 => cmpM .NotEq x127 y128) ρ fun c126 h => if c126 then (seqS (fun ρ => liftE (((getV ρ 6 >>= fun x135 => pure [] >>= fun l136 => pure (x135 :: l136)) >>= fun l134 => b_min l134) >>= fun v131 => getV ρ 3 >>= fun x132 => ((getV ρ 1 >>= fun x138 => (getV ρ 4 >>= fun x140 => pure [] >>= fun l141 => pure (x140 :: l141)) >>= fun l139 => pure (x138 :: l139)) >>= fun l137 => tupM l137) >>= fun y133 => storeM x132 y133 v131) ρ fun _ h => .next ρ h)
      (fun ρ h => .next ρ h)) ρ h else (fun ρ h => .next ρ h) ρ h)
    (fun ρ h => .next ρ h)))) ρ h else (fun ρ h => .next ρ h) ρ h)
  (fun ρ h => .next ρ h)))
def L1_fewest_turns (fl ms : List (Str × Str)) (o : Ora) : Env → AH → RS := (seqS (fun ρ => liftE (((pure (.int 0) >>= fun x24 => (pure (.int 1) >>= fun x26 => pure [] >>= fun l27 => pure (x26 :: l27)) >>= fun l25 => pure (x24 :: l25)) >>= fun l23 => tupM l23) >>= fun x22 => itM x22) ρ fun it21 h => loopOf (turnS (stN 4) (L2_fewest_turns fl ms o)) it21 ρ h)
  (fun ρ h => .next ρ h))
def S_fewest_turns (fl ms : List (Str × Str)) : ClS := fun o => (seqS (fun ρ => liftE ((getV ρ 0 >>= fun x2 => pure [] >>= fun l3 => pure (x2 :: l3)) >>= fun l1 => o ("need_mail", none) l1) ρ fun _ h => .next ρ h)
  (seqS (fun ρ => liftE ((getV ρ 0 >>= fun x5 => pure [] >>= fun l6 => pure (x5 :: l6)) >>= fun l4 => o ("need_there", none) l4) ρ fun _ h => .next ρ h)
  (seqS (fun ρ => liftE (((((getV ρ 0 >>= fun x12 => pure [] >>= fun l13 => pure (x12 :: l13)) >>= fun l11 => o ("passing", none) l11) >>= fun x9 => (alloc (.dct false []) >>= fun x14 => pure [] >>= fun l15 => pure (x14 :: l15)) >>= fun l10 => pure (x9 :: l10)) >>= fun l8 => tupM l8) >>= fun d7 => stT [2, 3] d7 ρ) ρ fun ρ h => .next ρ h)
  (seqS (fun ρ => liftE (((getV ρ 0 >>= fun x19 => pure [] >>= fun l20 => pure (x19 :: l20)) >>= fun l18 => o ("all_standings", none) l18) >>= fun x17 => itM x17) ρ fun it16 h => loopOf (turnS (stN 1) (L1_fewest_turns fl ms o)) it16 ρ h)
  (seqS (fun ρ => liftE (((((pure (.int 0) >>= fun x159 => (pure (.int 1) >>= fun x161 => pure [] >>= fun l162 => pure (x161 :: l162)) >>= fun l160 => pure (x159 :: l160)) >>= fun l158 => tupM l158) >>= fun x157 => itM x157) >>= fun it144 => M.nox (compIt (turnC (stN 4) (fun ρ => (((((getV ρ 0 >>= fun x153 => pure [] >>= fun l154 => pure (x153 :: l154)) >>= fun l152 => o ("end_of", none) l152) >>= fun x150 => (getV ρ 4 >>= fun x155 => pure [] >>= fun l156 => pure (x155 :: l156)) >>= fun l151 => pure (x150 :: l151)) >>= fun l149 => tupM l149) >>= fun x146 => getV ρ 3 >>= fun y147 => cmpM .In x146 y147)) (fun ρ => (getV ρ 3 >>= fun x163 => ((((getV ρ 0 >>= fun x169 => pure [] >>= fun l170 => pure (x169 :: l170)) >>= fun l168 => o ("end_of", none) l168) >>= fun x166 => (getV ρ 4 >>= fun x171 => pure [] >>= fun l172 => pure (x171 :: l172)) >>= fun l167 => pure (x166 :: l167)) >>= fun l165 => tupM l165) >>= fun y164 => idxM x163 y164)) (wipeE ρ [4])) it144) >>= fun l145 => newL false l145) >>= fun x142 => pure (.int 0) >>= fun y143 => b_defM minF x142 y143) ρ fun d h => .ret d h)
  (fun ρ h => .next ρ h))))))
def L1__law_longest (fl ms : List (Str × Str)) (o : Ora) : Env → AH → RS := (seqS (fun ρ => liftE (((getV ρ 2 >>= fun x11 => getV ρ 1 >>= fun y12 => cmpM .Eq x11 y12) >>= fun c10 => if c10 then (getV ρ 4 >>= fun x14 => pure (.int 1) >>= fun y15 => binM .Add false x14 y15) else pure (.int 0)) >>= fun d9 => stN 4 d9 ρ) ρ fun ρ h => .next ρ h)
  (seqS (fun ρ => liftE (((getV ρ 3 >>= fun x18 => (getV ρ 4 >>= fun x20 => pure [] >>= fun l21 => pure (x20 :: l21)) >>= fun l19 => pure (x18 :: l19)) >>= fun l17 => b_max l17) >>= fun d16 => stN 3 d16 ρ) ρ fun ρ h => .next ρ h)
  (fun ρ h => .next ρ h)))
def S__law_longest (fl ms : List (Str × Str)) : ClS := fun o => (seqS (fun ρ => liftE (((pure (.int 0) >>= fun x3 => (pure (.int 0) >>= fun x5 => pure [] >>= fun l6 => pure (x5 :: l6)) >>= fun l4 => pure (x3 :: l4)) >>= fun l2 => tupM l2) >>= fun d1 => stT [3, 4] d1 ρ) ρ fun ρ h => .next ρ h)
  (seqS (fun ρ => liftE (getV ρ 0 >>= fun x8 => itM x8) ρ fun it7 h => loopOf (turnS (stN 2) (L1__law_longest fl ms o)) it7 ρ h)
  (seqS (fun ρ => liftE (getV ρ 3) ρ fun d h => .ret d h)
  (fun ρ h => .next ρ h))))
def S__law_lead (fl ms : List (Str × Str)) : ClS := fun o => (seqS (fun ρ => liftE (((((((getV ρ 0 >>= fun x11 => pure [] >>= fun l12 => pure (x11 :: l12)) >>= fun l10 => b_len l10) >>= fun x8 => pure (.int 1) >>= fun y9 => binM .Add false x8 y9) >>= fun x6 => rng1M x6) >>= fun it4 => M.nox (compIt (turnC (stN 1) (fun ρ => pure true) (fun ρ => (((getV ρ 0 >>= fun x16 => pure none >>= fun y17 => (getV ρ 1 >>= fun x19 => partM x19) >>= fun z18 => sliceM false x16 y17 z18) >>= fun x15 => methM ms o "count" x15 (pure (.int 0) >>= fun x20 => pure [] >>= fun l21 => pure (x20 :: l21))) >>= fun x13 => ((getV ρ 0 >>= fun x23 => pure none >>= fun y24 => (getV ρ 1 >>= fun x26 => partM x26) >>= fun z25 => sliceM false x23 y24 z25) >>= fun x22 => methM ms o "count" x22 (pure (.int 1) >>= fun x27 => pure [] >>= fun l28 => pure (x27 :: l28))) >>= fun y14 => binM .Sub false x13 y14)) (wipeE ρ [1])) it4) >>= fun l5 => newL false l5) >>= fun x2 => pure [] >>= fun l3 => pure (x2 :: l3)) >>= fun l1 => b_max l1) ρ fun d h => .ret d h)
  (fun ρ h => .next ρ h))
def S_past (fl ms : List (Str × Str)) : ClS := fun o => (seqS (fun ρ => liftE ((getV ρ 0 >>= fun x2 => pure [] >>= fun l3 => pure (x2 :: l3)) >>= fun l1 => o ("need_mail", none) l1) ρ fun _ h => .next ρ h)
  (seqS (fun ρ => liftE ((getV ρ 0 >>= fun x5 => (getV ρ 1 >>= fun x7 => pure [] >>= fun l8 => pure (x7 :: l8)) >>= fun l6 => pure (x5 :: l6)) >>= fun l4 => o ("need_letter", none) l4) ρ fun _ h => .next ρ h)
  (seqS (fun ρ => liftE ((getV ρ 0 >>= fun x10 => pure [] >>= fun l11 => pure (x10 :: l11)) >>= fun l9 => o ("need_there", none) l9) ρ fun _ h => .next ρ h)
  (seqS (fun ρ => liftE (((getV ρ 0 >>= fun x14 => pure [] >>= fun l15 => pure (x14 :: l15)) >>= fun l13 => o ("passing", none) l13) >>= fun d12 => stN 2 d12 ρ) ρ fun ρ h => .next ρ h)
  (seqS (fun ρ => liftE (((((getV ρ 0 >>= fun x37 => pure [] >>= fun l38 => pure (x37 :: l38)) >>= fun l36 => o ("all_standings", none) l36) >>= fun x35 => itM x35) >>= fun it17 => M.nox (compIt (turnC (stN 4) (fun ρ => (((getV ρ 2 >>= fun x23 => getV ρ 4 >>= fun y24 => idxM x23 y24) >>= fun x20 => pure (.int 0) >>= fun y21 => cmpM .Gt x20 y21) >>= fun c19 => if c19 then ((getV ρ 4 >>= fun x29 => (getV ρ 1 >>= fun x31 => pure (.int 0) >>= fun y32 => idxM x31 y32) >>= fun y30 => idxM x29 y30) >>= fun x26 => (getV ρ 1 >>= fun x33 => pure (.int 1) >>= fun y34 => idxM x33 y34) >>= fun y27 => cmpM .Gt x26 y27) else pure false)) (fun ρ => getV ρ 4) (wipeE ρ [4])) it17) >>= fun l18 => newL false l18) >>= fun d16 => stN 3 d16 ρ) ρ fun ρ h => .next ρ h)
  (seqS (fun ρ => liftE ((((((getV ρ 3 >>= fun x47 => itM x47) >>= fun it45 => M.nox (compIt (turnC (stN 4) (fun ρ => pure true) (fun ρ => (getV ρ 4 >>= fun x48 => pure (.int 0) >>= fun y49 => idxM x48 y49)) (wipeE ρ [4])) it45) >>= fun l46 => newL false l46) >>= fun x43 => pure [] >>= fun l44 => pure (x43 :: l44)) >>= fun l42 => b_min l42) >>= fun x40 => (((((getV ρ 3 >>= fun x57 => itM x57) >>= fun it55 => M.nox (compIt (turnC (stN 4) (fun ρ => pure true) (fun ρ => (getV ρ 4 >>= fun x58 => pure (.int 1) >>= fun y59 => idxM x58 y59)) (wipeE ρ [4])) it55) >>= fun l56 => newL false l56) >>= fun x53 => pure [] >>= fun l54 => pure (x53 :: l54)) >>= fun l52 => b_min l52) >>= fun x50 => pure [] >>= fun l51 => pure (x50 :: l51)) >>= fun l41 => pure (x40 :: l41)) >>= fun l39 => tupM l39) ρ fun d h => .ret d h)
  (fun ρ h => .next ρ h)))))))
def S_till (fl ms : List (Str × Str)) : ClS := fun o => (seqS (fun ρ => liftE ((getV ρ 0 >>= fun x2 => pure [] >>= fun l3 => pure (x2 :: l3)) >>= fun l1 => o ("need_mail", none) l1) ρ fun _ h => .next ρ h)
  (seqS (fun ρ => liftE ((getV ρ 0 >>= fun x5 => (getV ρ 1 >>= fun x7 => pure [] >>= fun l8 => pure (x7 :: l8)) >>= fun l6 => pure (x5 :: l6)) >>= fun l4 => o ("need_letter", none) l4) ρ fun _ h => .next ρ h)
  (seqS (fun ρ => liftE ((getV ρ 0 >>= fun x10 => pure [] >>= fun l11 => pure (x10 :: l11)) >>= fun l9 => o ("need_there", none) l9) ρ fun _ h => .next ρ h)
  (seqS (fun ρ => liftE (((getV ρ 0 >>= fun x14 => pure [] >>= fun l15 => pure (x14 :: l15)) >>= fun l13 => o ("passing", none) l13) >>= fun d12 => stN 2 d12 ρ) ρ fun ρ h => .next ρ h)
  (seqS (fun ρ => liftE (((((getV ρ 0 >>= fun x37 => pure [] >>= fun l38 => pure (x37 :: l38)) >>= fun l36 => o ("all_standings", none) l36) >>= fun x35 => itM x35) >>= fun it17 => M.nox (compIt (turnC (stN 4) (fun ρ => (((getV ρ 2 >>= fun x23 => getV ρ 4 >>= fun y24 => idxM x23 y24) >>= fun x20 => pure (.int 0) >>= fun y21 => cmpM .Gt x20 y21) >>= fun c19 => if c19 then ((getV ρ 4 >>= fun x29 => (getV ρ 1 >>= fun x31 => pure (.int 0) >>= fun y32 => idxM x31 y32) >>= fun y30 => idxM x29 y30) >>= fun x26 => (getV ρ 1 >>= fun x33 => pure (.int 1) >>= fun y34 => idxM x33 y34) >>= fun y27 => cmpM .LtE x26 y27) else pure false)) (fun ρ => getV ρ 4) (wipeE ρ [4])) it17) >>= fun l18 => newL false l18) >>= fun d16 => stN 3 d16 ρ) ρ fun ρ h => .next ρ h)
  (seqS (fun ρ => liftE ((((((getV ρ 3 >>= fun x47 => itM x47) >>= fun it45 => M.nox (compIt (turnC (stN 4) (fun ρ => pure true) (fun ρ => (getV ρ 4 >>= fun x48 => pure (.int 0) >>= fun y49 => idxM x48 y49)) (wipeE ρ [4])) it45) >>= fun l46 => newL false l46) >>= fun x43 => pure [] >>= fun l44 => pure (x43 :: l44)) >>= fun l42 => b_max l42) >>= fun x40 => (((((getV ρ 3 >>= fun x57 => itM x57) >>= fun it55 => M.nox (compIt (turnC (stN 4) (fun ρ => pure true) (fun ρ => (getV ρ 4 >>= fun x58 => pure (.int 1) >>= fun y59 => idxM x58 y59)) (wipeE ρ [4])) it55) >>= fun l56 => newL false l56) >>= fun x53 => pure [] >>= fun l54 => pure (x53 :: l54)) >>= fun l52 => b_max l52) >>= fun x50 => pure [] >>= fun l51 => pure (x50 :: l51)) >>= fun l41 => pure (x40 :: l41)) >>= fun l39 => tupM l39) ρ fun d h => .ret d h)
  (fun ρ h => .next ρ h)))))))
end Cr
set_option Elab.async false
set_option linter.all false
set_option maxRecDepth 100000
set_option maxHeartbeats 1000000
/-! Working with denotations. -/
namespace Cr
open PySem
/-- what a call of a def is -/
def Prog.has (P : Prog) (key : Str × Option Str) (n m : Nat) (S : ClS) : Prop := ∀ k (as : List D), as.length = n → run P (k + 1) key as = bodyM S (run P k) (as.map some ++ List.replicate m none)
theorem has_of {P : Prog} {key : Str × Option Str} {n m : Nat} {S : ClS} {d : Def} (hf : P.find key = some d) (hn : d.ps.length = n) (hm : d.N.length - n = m) (hc : d.code P = some S) : P.has key n m S := fun k as hl => by
  funext h
  unfold run
  simp only [hf]
  rw [if_pos (hl.trans hn.symm), hc]
  show bodyM S (run P k) (startE d.N as) h = _
  unfold startE
  rw [hl, hm]
/-- a body's value -/
def bodyF (F : Env → AH → RS) (ρ : Env) : M D := fun h => match F ρ h with
  | .next _ h' => .ok .non h'
  | .ret d h' => .ok d h'
  | .exc c _ h' => .exc c h'
  | _ => .stuck
theorem bodyM_F {S : ClS} {o : Ora} {ρ : Env} : bodyM S o ρ = bodyF (S o) ρ := rfl
section
variable {β : Type} {ρ : Env} {R F G : Env → AH → RS} {A : Env → M D}
@[simp] theorem bF_ret : bodyF (seqS (fun ρ => liftE (A ρ) ρ fun d h => .ret d h) R) ρ = A ρ := by
  funext h
  unfold bodyF seqS liftE
  dsimp only
  cases A ρ h <;> rfl
@[simp] theorem bF_retN : bodyF (seqS (fun ρ h => .ret .non h) R) ρ = pure .non := rfl
@[simp] theorem bF_if {T : Env → M Bool} : bodyF (seqS (fun ρ => liftE (T ρ) ρ fun c h => if c then F ρ h else G ρ h) R) ρ = T ρ >>= fun c => if c then bodyF (seqS F R) ρ else bodyF (seqS G R) ρ := by
  funext h
  show _ = M.bind (T ρ) _ h
  unfold bodyF seqS liftE M.bind
  dsimp only
  cases T ρ h with
  | ok b h' => cases b <;> rfl
  | exc c h' => rfl
  | stuck => rfl
@[simp] theorem bF_nil : bodyF (fun ρ h => .next ρ h) ρ = pure .non := rfl
@[simp] theorem bF_next : bodyF (seqS (fun ρ h => .next ρ h) R) ρ = bodyF R ρ := rfl
@[simp] theorem bF_assoc : bodyF (seqS (seqS F G) R) ρ = bodyF (seqS F (seqS G R)) ρ := by
  funext h
  unfold bodyF seqS
  cases F ρ h <;> rfl
@[simp] theorem bF_asg {A : Env → M Env} : bodyF (seqS (fun ρ => liftE (A ρ) ρ fun ρ' h => .next ρ' h) R) ρ = A ρ >>= fun ρ' => bodyF R ρ' := by
  funext h
  show _ = M.bind (A ρ) _ h
  unfold bodyF seqS liftE M.bind
  dsimp only
  cases A ρ h <;> rfl
@[simp] theorem bF_expr {A : Env → M β} : bodyF (seqS (fun ρ => liftE (A ρ) ρ fun _ h => .next ρ h) R) ρ = A ρ >>= fun _ => bodyF R ρ := by
  funext h
  show _ = M.bind (A ρ) _ h
  unfold bodyF seqS liftE M.bind
  dsimp only
  cases A ρ h <;> rfl
@[simp] theorem bF_exc {c : Str} : bodyF (seqS (fun ρ h => .exc c ρ h) R) ρ = M.raise c := rfl
end
/-! ### names -/
@[simp] theorem getV_0 {d : D} {ρ : Env} : getV (some d :: ρ) 0 = pure d := rfl
@[simp] theorem getV_s {x : Option D} {ρ : Env} {n : Nat} : getV (x :: ρ) (n + 1) = getV ρ n := by
  unfold getV
  simp
@[simp] theorem stN_eq {i : Nat} {d : D} {ρ : Env} : stN i d ρ = pure (ρ.set i (some d)) := rfl
@[simp] theorem stT2 {i j : Nat} {a b : D} {ρ : Env} : stT [i, j] (.tup [a, b]) ρ = pure ((ρ.set i (some a)).set j (some b)) := rfl
@[simp] theorem stT3 {i j k : Nat} {a b c : D} {ρ : Env} : stT [i, j, k] (.tup [a, b, c]) ρ = pure (((ρ.set i (some a)).set j (some b)).set k (some c)) := rfl
/-! ### values -/
@[simp] theorem asBool_bl {b : Bool} : asBool (.bl b) = pure b := rfl
@[simp] theorem tupM_2 {a b : D} : tupM [a, b] = pure (.tup [a, b]) := rfl
@[simp] theorem tupM_1 {a : D} : tupM [a] = pure (.tup [a]) := rfl
@[simp] theorem tupM_0 : tupM [] = pure (.tup []) := rfl
@[simp] theorem tupM_3 {a b c : D} : tupM [a, b, c] = pure (.tup [a, b, c]) := rfl
@[simp] theorem dispM_0 : dispM false [] = pure (.lst []) := rfl
theorem dispM_le {l : List D} (h : l.length ≤ most) : dispM false l = pure (.lst l) := by unfold dispM; rw [if_pos h]; rfl
@[simp] theorem newL_f {l : List D} : newL false l = pure (.lst l) := rfl
@[simp] theorem isi_int {i : Int} {t : Ty} : isiM (.int i) t = pure (t == .int) := rfl
@[simp] theorem isi_tup {l : List D} {t : Ty} : isiM (.tup l) t = pure (t == .tuple) := rfl
@[simp] theorem isi_lst {l : List D} {t : Ty} : isiM (.lst l) t = pure (t == .list) := rfl
@[simp] theorem isi_bl {b : Bool} {t : Ty} : isiM (.bl b) t = pure (t == .int || t == .bool) := rfl
@[simp] theorem isi_str {x : Str} {t : Ty} : isiM (.str x) t = pure (t == .str) := rfl
@[simp] theorem isi_non {t : Ty} : isiM .non t = pure false := rfl
@[simp] theorem cmp_lt {i j : Int} : cmpM .Lt (.int i) (.int j) = pure (decide (i < j)) := rfl
@[simp] theorem cmp_le {i j : Int} : cmpM .LtE (.int i) (.int j) = pure (decide (i ≤ j)) := rfl
@[simp] theorem cmp_gt {i j : Int} : cmpM .Gt (.int i) (.int j) = pure (decide (j < i)) := rfl
@[simp] theorem cmp_ge {i j : Int} : cmpM .GtE (.int i) (.int j) = pure (decide (j ≤ i)) := rfl
theorem eqv_int {i j : Int} : PyData.eqv (.int i) (.int j) = decide (i = j) := by
  by_cases h : i = j <;> simp [PyData.eqv, h]
@[simp] theorem cmp_eq {i j : Int} : cmpM .Eq (.int i) (.int j) = pure (decide (i = j)) := by
  funext h
  show R.ok (PyData.eqv (.int i) (.int j)) h = _
  rw [eqv_int]
  rfl
@[simp] theorem cmp_ne {i j : Int} : cmpM .NotEq (.int i) (.int j) = pure (!decide (i = j)) := by
  show cmpM .Eq (.int i) (.int j) >>= _ = _
  rw [cmp_eq]
  rfl
@[simp] theorem bin_add {i j : Int} {mk : Bool} : binM .Add mk (.int i) (.int j) = pure (.int (i + j)) := rfl
@[simp] theorem bin_sub {i j : Int} {mk : Bool} : binM .Sub mk (.int i) (.int j) = pure (.int (i - j)) := rfl
@[simp] theorem part_int {i : Int} : partM (.int i) = pure (some i) := rfl
@[simp] theorem neg_int {i : Int} : negM (.int i) = pure (.int (-i)) := rfl
@[simp] theorem len_tup {l : List D} : b_len [.tup l] = pure (.int l.length) := rfl
@[simp] theorem len_lst {l : List D} : b_len [.lst l] = pure (.int l.length) := rfl
theorem ixOf_nat {n i : Nat} (h : i < n) : ixOf n (i : Int) = some i := by
  unfold ixOf
  simp [h]
theorem atL_nat {l : List D} {i : Nat} {d : D} (h : l[i]? = some d) : atL l (i : Int) = pure d := by
  obtain ⟨h1, h2⟩ := List.getElem?_eq_some_iff.mp h
  unfold atL
  rw [ixOf_nat h1]
  simp only [h]
theorem idx_tup {l : List D} {i : Nat} {d : D} (h : l[i]? = some d) : idxM (.tup l) (.int (i : Int)) = pure d := atL_nat h
theorem idx_lst {l : List D} {i : Nat} {d : D} (h : l[i]? = some d) : idxM (.lst l) (.int (i : Int)) = pure d := atL_nat h
@[simp] theorem idx_t0 {a : D} {l : List D} : idxM (.tup (a :: l)) (.int 0) = pure a := atL_nat (l := a :: l) (i := 0) (d := a) rfl
@[simp] theorem idx_t1 {a b : D} {l : List D} : idxM (.tup (a :: b :: l)) (.int 1) = pure b := atL_nat (l := a :: b :: l) (i := 1) (d := b) rfl
@[simp] theorem idx_l0 {a : D} {l : List D} : idxM (.lst (a :: l)) (.int 0) = pure a := atL_nat (l := a :: l) (i := 0) (d := a) rfl
@[simp] theorem idx_l1 {a b : D} {l : List D} : idxM (.lst (a :: b :: l)) (.int 1) = pure b := atL_nat (l := a :: b :: l) (i := 1) (d := b) rfl
@[simp] theorem it_tup {l : List D} : itM (.tup l) = pure (.fix l) := rfl
@[simp] theorem it_lst {l : List D} : itM (.lst l) = pure (.fix l) := rfl
@[simp] theorem nox_pure {α : Type} {a : α} : M.nox (pure a : M α) = pure a := rfl
theorem comp_fix {body : D → M (Option D)} {f : D → Option D} : ∀ {l : List D}, (∀ d ∈ l, body d = pure (f d)) → compIt body (.fix l) = pure (l.filterMap f)
  | [], _ => rfl
  | d :: r, h => by
    have ih := comp_fix (body := body) (f := f) (l := r) fun d hd => h d (List.mem_cons_of_mem _ hd)
    have ih : compFix body r = pure (r.filterMap f) := ih
    show (body d >>= fun x => compFix body r >>= fun l => pure (match x with | some y => y :: l | none => l)) = _
    rw [h d List.mem_cons_self, ih, pure_bind, pure_bind]
    cases q : f d <;> simp [List.filterMap_cons, q]
theorem comp_map {body : D → M (Option D)} {f : D → D} {l : List D} (h : ∀ d ∈ l, body d = pure (some (f d))) : compIt body (.fix l) = pure (l.map f) := by
  rw [comp_fix (f := fun d => some (f d)) h]
  simp
theorem boolsD_map : ∀ l : List Bool, boolsD (l.map .bl) = some l
  | [] => rfl
  | b :: l => by
    have ih := boolsD_map l
    unfold boolsD at ih ⊢
    simp [List.mapM_cons, ih]
theorem intsD_map : ∀ l : List Int, intsD (l.map .int) = some l
  | [] => rfl
  | b :: l => by
    have ih := intsD_map l
    unfold intsD at ih ⊢
    simp [List.mapM_cons, ih]
@[simp] theorem all_lst {l : List Bool} : b_all [.lst (l.map .bl)] = pure (.bl (l.all id)) := by
  show (match boolsD (l.map .bl) with | some l => pure (.bl (l.all id)) | none => M.stuck : M D) = _
  rw [boolsD_map]
@[simp] theorem any_lst {l : List Bool} : b_any [.lst (l.map .bl)] = pure (.bl (l.any id)) := by
  show (match boolsD (l.map .bl) with | some l => pure (.bl (l.any id)) | none => M.stuck : M D) = _
  rw [boolsD_map]
@[simp] theorem sum_lst {l : List Int} : b_sum [.lst (l.map .int)] = pure (.int l.sum) := by
  show (match intsD (l.map .int) with | some l => pure (.int l.sum) | none => M.stuck : M D) = _
  rw [intsD_map]
theorem map_ok {β γ : Type} {g : β → γ} {F : β → D} {G : γ → D} {l : List β} : l.map F = l.map F := rfl
/-! ### mails -/
abbrev bunD (A : List Int) : D := .tup (A.map D.int)
abbrev mailD (A B : List Int) : D := .tup [bunD A, bunD B]
section
variable {P : Prog} {fl ms : List (Str × Str)} {k : Nat}
theorem is_whole_int (hP : P.has ("is_whole", none) 3 0 (S_is_whole fl ms)) {i lo hi : Int} : run P (k + 1) ("is_whole", none) [.int i, .int lo, .int hi] = pure (.bl (decide (lo ≤ i) && decide (i ≤ hi))) := by
  rw [hP k _ rfl, bodyM_F]
  unfold S_is_whole
  rw [bF_ret]
  simp only [List.map_cons, List.map_nil, List.replicate_zero, List.append_nil, getV_0, getV_s, pure_bind, bind_assoc, isi_int, asBool_bl, cmp_le]
  by_cases h : lo ≤ i <;> simp [h, getV_0, getV_s, cmp_le, asBool_bl]
end
end Cr
set_option Elab.async false
set_option linter.all false
set_option maxRecDepth 100000
set_option maxHeartbeats 1000000
/-! What the defs of mails answer. -/
namespace Cr
open PySem
theorem cut_tail {l : List D} : cut l (some 1) none = l.tail := by
  unfold cut loI hiI clampI
  cases l with
  | nil => rfl
  | cons a r => simp
@[simp] theorem slice_tail {l : List D} : sliceM false (.tup l) (some 1) none = pure (.tup l.tail) := by
  show (pure (D.tup (cut l (some 1) none)) : M D) = _
  rw [cut_tail]
@[simp] theorem zip_tup {l r : List D} : zipM (.tup l) (.tup r) = pure (.fix (zipL l r)) := rfl
theorem zipL_ints : ∀ A B : List Int, zipL (A.map D.int) (B.map D.int) = (A.zip B).map fun p => .tup [.int p.1, .int p.2]
  | [], B => by cases B <;> rfl
  | _ :: _, [] => rfl
  | a :: A, b :: B => by
    have := zipL_ints A B
    simp [zipL, this]
def bundB (A : List Int) (m : Int) : Bool := decide ((A.length : Int) ≤ 7) && A.all (fun x => decide (0 ≤ x) && decide (x ≤ m)) && (A.zip A.tail).all fun p => decide (p.1 ≤ p.2)
theorem filterMap_bl {β : Type} {l : List β} {f : β → D} {g : β → Bool} : ((l.map f).map fun d => d) = l.map f := by simp
section
variable {P : Prog} {fl ms : List (Str × Str)} {k : Nat}
/-- a comprehension over mapped things, its items bools -/
theorem comp_of {β γ : Type} {body : D → M (Option D)} {l : List β} {f : β → D} {F : γ → D} {g : β → γ} (h : ∀ b ∈ l, body (f b) = pure (some (F (g b)))) : compIt body (.fix (l.map f)) = pure ((l.map g).map F) := by
  have q : ∀ l : List β, (∀ b ∈ l, body (f b) = pure (some (F (g b)))) → compFix body (l.map f) = pure ((l.map g).map F) := fun l => by
    induction l with
    | nil => exact fun _ => rfl
    | cons b r ih =>
      intro h
      show (body (f b) >>= fun x => compFix body (r.map f) >>= fun l => pure (match x with | some y => y :: l | none => l)) = _
      rw [h b List.mem_cons_self, ih fun b hb => h b (List.mem_cons_of_mem _ hb)]
      rfl
  exact q l h
/-- .. with a test -/
theorem comp_if {β γ : Type} {body : D → M (Option D)} {l : List β} {f : β → D} {F : γ → D} {t : β → Bool} {g : β → γ} (h : ∀ b ∈ l, body (f b) = pure (if t b then some (F (g b)) else none)) : compIt body (.fix (l.map f)) = pure (((l.filter t).map g).map F) := by
  have q : ∀ l : List β, (∀ b ∈ l, body (f b) = pure (if t b then some (F (g b)) else none)) → compFix body (l.map f) = pure (((l.filter t).map g).map F) := fun l => by
    induction l with
    | nil => exact fun _ => rfl
    | cons b r ih =>
      intro h
      show (body (f b) >>= fun x => compFix body (r.map f) >>= fun l => pure (match x with | some y => y :: l | none => l)) = _
      rw [h b List.mem_cons_self, ih fun b hb => h b (List.mem_cons_of_mem _ hb)]
      cases q : t b <;> simp [q]
  exact q l h
theorem turnC_eq {G : D → Env → M Env} {T : Env → M Bool} {E : Env → M D} {ρ : Env} {d : D} : turnC G T E ρ d = G d ρ >>= fun ρ' => T ρ' >>= fun b => if b then E ρ' >>= fun x => pure (some x) else pure none := rfl
theorem is_bundle_eq (hW : P.has ("is_whole", none) 3 0 (S_is_whole fl ms)) (hP : P.has ("is_bundle", none) 2 2 (S_is_bundle fl ms)) {A : List Int} {m : Int} : run P (k + 2) ("is_bundle", none) [bunD A, .int m] = pure (.bl (bundB A m)) := by
  show run P ((k + 1) + 1) _ _ = _
  rw [hP (k + 1) _ rfl, bodyM_F]
  unfold S_is_bundle
  have e0 : (A.map D.int).tail = A.tail.map D.int := by cases A <;> rfl
  simp only [List.map_cons, List.map_nil, List.replicate, List.cons_append, List.nil_append, bF_if, bF_assoc, bF_next, bF_ret, getV_0, getV_s, pure_bind, bind_assoc, isi_tup, asBool_bl, len_tup, cmp_gt, it_tup, newL_f, part_int, slice_tail, zip_tup, e0, zipL_ints, List.length_map]
  unfold bundB
  by_cases h1 : (7 : Int) < A.length
  · have h2 : ¬ ((A.length : Int) ≤ 7) := by omega
    simp [h1, h2]
  · have h2 : (A.length : Int) ≤ 7 := by omega
    simp only [h1, h2, decide_true, decide_false, Bool.false_eq_true, if_false, beq_self_eq_true, Bool.not_true, Bool.true_and]
    rw [comp_of (l := A) (f := D.int) (F := D.bl) (g := fun x => decide (0 ≤ x) && decide (x ≤ m)), comp_of (l := A.zip A.tail) (f := fun p => .tup [.int p.1, .int p.2]) (F := D.bl) (g := fun p => decide (p.1 ≤ p.2))]
    · simp only [nox_pure, pure_bind, all_lst, asBool_bl, List.all_map]
      cases h3 : A.all (fun x => decide (0 ≤ x) && decide (x ≤ m)) with
      | true =>
        have h4 : A.all (id ∘ fun x => decide (0 ≤ x) && decide (x ≤ m)) = true := h3
        simp only [h4]
        rfl
      | false =>
        have h4 : A.all (id ∘ fun x => decide (0 ≤ x) && decide (x ≤ m)) = false := h3
        simp only [h4]
        rfl
    · intro x hx
      rw [turnC_eq]
      simp [wipeE]
    · intro x hx
      rw [turnC_eq]
      simp [wipeE, is_whole_int hW]
end
end Cr
set_option Elab.async false
set_option linter.all false
set_option maxRecDepth 100000
set_option maxHeartbeats 1000000
/-! What the defs of mails answer, of things of any kind. -/
namespace Cr
open PySem
theorem comp_2 {body : D → M (Option D)} {a b : D} : compIt body (.fix [a, b]) = body a >>= fun x => body b >>= fun y => pure (x.toList ++ y.toList) := by
  show (body a >>= fun x => compFix body [b] >>= fun l => pure (match x with | some y => y :: l | none => l)) = _
  have e : compFix body [b] = body b >>= fun y => pure y.toList := by
    show (body b >>= fun x => compFix body [] >>= fun l => pure (match x with | some y => y :: l | none => l)) = _
    congr
    funext x
    cases x <;> rfl
  rw [e]
  congr
  funext x
  rw [bind_assoc]
  congr
  funext y
  rw [pure_bind]
  cases x <;> rfl
theorem get_map {A : List Int} {i : Nat} (h : i < A.length) : (A.map D.int)[i]? = some (.int (A.getD i 0)) := by simp [h]
theorem idx_bun {A : List Int} {i : Nat} (h : i < A.length) : idxM (bunD A) (.int (i : Int)) = pure (.int (A.getD i 0)) := idx_tup (get_map h)
/-- no thing of the heap -/
def flat : D → Bool
  | .ref _ => false
  | .scr _ => false
  | _ => true
def whoB (d : D) (lo hi : Int) : Bool := match d with
  | .int i => decide (lo ≤ i) && decide (i ≤ hi)
  | _ => false
structure HMail (P : Prog) (fl ms : List (Str × Str)) : Prop where
  is_whole : P.has ("is_whole", none) 3 0 (S_is_whole fl ms)
  is_bundle : P.has ("is_bundle", none) 2 2 (S_is_bundle fl ms)
  is_mail : P.has ("is_mail", none) 1 1 (S_is_mail fl ms)
  need_mail : P.has ("need_mail", none) 1 0 (S_need_mail fl ms)
structure HLet (P : Prog) (fl ms : List (Str × Str)) : Prop where
  is_letter : P.has ("is_letter", none) 2 0 (S_is_letter fl ms)
  need_letter : P.has ("need_letter", none) 2 0 (S_need_letter fl ms)
section
variable {P : Prog} {fl ms : List (Str × Str)} {k : Nat}
theorem is_whole_any (hP : P.has ("is_whole", none) 3 0 (S_is_whole fl ms)) {d : D} {lo hi : Int} (hd : flat d = true) : run P (k + 1) ("is_whole", none) [d, .int lo, .int hi] = pure (.bl (whoB d lo hi)) := by
  cases d with
  | int i => exact is_whole_int hP
  | ref n => cases hd
  | scr l => cases hd
  | _ =>
    rw [hP k _ rfl, bodyM_F]
    unfold S_is_whole
    simp [whoB]
def risB : List D → Bool
  | .int a :: .int b :: r => decide (a ≤ b) && risB (.int b :: r)
  | _ => true
def bunB (l : List D) (m : Int) : Bool := decide ((l.length : Int) ≤ 7) && l.all (fun x => whoB x 0 m) && risB l
def tupB : D → Bool
  | .tup _ => true
  | _ => false
def allInt : List D → Option (List Int)
  | [] => some []
  | .int i :: r => (allInt r).map (i :: ·)
  | _ => none
theorem ints_of : ∀ {l : List D} {m : Int}, l.all (fun x => whoB x 0 m) = true → ∃ A : List Int, l = A.map D.int
  | [], _, _ => ⟨[], rfl⟩
  | d :: r, m, h => by
    simp only [List.all_cons, Bool.and_eq_true] at h
    obtain ⟨A, rfl⟩ := ints_of h.2
    cases d with
    | int i => exact ⟨i :: A, rfl⟩
    | _ => cases h.1
theorem bunB_ints : ∀ {A : List Int} {m : Int}, bunB (A.map D.int) m = bundB A m := by
  intro A m
  unfold bunB bundB
  have h1 : ∀ A : List Int, (A.map D.int).all (fun x => whoB x 0 m) = A.all (fun x => decide (0 ≤ x) && decide (x ≤ m)) := fun A => by
    rw [List.all_map]
    rfl
  have h2 : ∀ A : List Int, risB (A.map D.int) = (A.zip A.tail).all fun p => decide (p.1 ≤ p.2) := fun A => by
    induction A with
    | nil => rfl
    | cons a r ih =>
      cases r with
      | nil => rfl
      | cons b r => simp only [List.map_cons, risB, List.tail_cons, List.zip_cons_cons, List.all_cons] at ih ⊢; rw [ih]
  rw [List.length_map, h1, h2]
theorem is_bundle_any (W : HMail P fl ms) {l : List D} {m : Int} (hl : l.all flat = true) : run P (k + 2) ("is_bundle", none) [.tup l, .int m] = pure (.bl (bunB l m)) := by
  cases h : l.all (fun x => whoB x 0 m) with
  | true =>
    obtain ⟨A, rfl⟩ := ints_of h
    rw [bunB_ints]
    exact is_bundle_eq W.is_whole W.is_bundle
  | false =>
    show run P ((k + 1) + 1) _ _ = _
    rw [W.is_bundle (k + 1) _ rfl, bodyM_F]
    unfold S_is_bundle
    have e : bunB l m = false := by unfold bunB; rw [h]; simp
    rw [e]
    have c := comp_of (body := turnC (stN 2) (fun ρ => pure true) (fun ρ => getV ρ 2 >>= fun x => getV ρ 1 >>= fun a => run P (k + 1) ("is_whole", none) [x, .int 0, a]) [some (.tup l), some (.int m), none, none]) (l := l) (f := id) (F := D.bl) (g := fun x => whoB x 0 m) (fun b hb => by
      rw [turnC_eq]
      simp [is_whole_any W.is_whole (List.all_eq_true.mp hl b hb)])
    rw [List.map_id] at c
    have a : (b_all [.lst (l.map (D.bl ∘ fun x => whoB x 0 m))] : M D) = pure (.bl false) := by
      have q := all_lst (l := l.map fun x => whoB x 0 m)
      rw [List.map_map, List.all_map] at q
      rw [q]
      exact congrArg (fun b => (pure (D.bl b) : M D)) h
    by_cases h7 : (7 : Int) < l.length
    · simp [h7]
    · simp [h7, wipeE, c, a]
theorem is_mail_any (W : HMail P fl ms) {d : D} (hd : flat d = true) (h1 : ∀ l, d = .tup l → l.all flat = true) (h2 : ∀ l x, d = .tup l → .tup x ∈ l → x.all flat = true) :
    run P (k + 3) ("is_mail", none) [d] = pure (.bl (match d with | .tup [.tup x, .tup y] => bunB x y.length && bunB y x.length | _ => false)) := by
  show run P ((k + 2) + 1) _ _ = _
  rw [W.is_mail (k + 2) _ rfl, bodyM_F]
  unfold S_is_mail
  cases d with
  | ref n => cases hd
  | scr l => cases hd
  | tup l =>
    have hf := h1 l rfl
    have gen : ∀ l : List D, l.length ≠ 2 → (match D.tup l with | .tup [.tup x, .tup y] => bunB x y.length && bunB y x.length | _ => false) = false := fun l hl => by
      split
      · rename_i e; cases e; simp at hl
      · rfl
    by_cases hl : l.length = 2
    · match l, hl with
      | [a, b], _ =>
        simp only [List.all_cons, List.all_nil, Bool.and_true, Bool.and_eq_true] at hf
        have e1 : ∀ c d : Bool, (b_all [.lst [.bl c, .bl d]] : M D) = pure (.bl (c && d)) := fun c d => by
          have := all_lst (l := [c, d])
          simpa using this
        have isT : ∀ d, flat d = true → isiM d .tuple = pure (tupB d) := fun d hd => by
          cases d <;> first | rfl | cases hd
        cases a with
        | tup x =>
          cases b with
          | tup y =>
            have i1 : x.all flat = true := h2 _ x rfl (by simp)
            have i2 : y.all flat = true := h2 _ y rfl (by simp)
            simp [comp_2, turnC_eq, wipeE, e1, is_bundle_any W i1, is_bundle_any W i2]
            cases bunB x y.length <;> simp
          | ref n => exact absurd hf.2 (by simp [flat])
          | scr n => exact absurd hf.2 (by simp [flat])
          | _ => simp [comp_2, turnC_eq, wipeE, e1]
        | ref n => exact absurd hf.1 (by simp [flat])
        | scr n => exact absurd hf.1 (by simp [flat])
        | _ => simp [comp_2, turnC_eq, wipeE, e1, isT b hf.2]
    · rw [gen l hl]
      have : ((l.length : Int) = 2) = False := by simp; omega
      simp [this]
  | _ => simp
/-- things that may be asked: tuples of tuples of plain things -/
def okD (d : D) : Prop := flat d = true ∧ (∀ l, d = .tup l → l.all flat = true) ∧ ∀ l x, d = .tup l → .tup x ∈ l → x.all flat = true
def mlB (d : D) : Bool := match d with
  | .tup [.tup x, .tup y] => bunB x y.length && bunB y x.length
  | _ => false
theorem is_mail_D (W : HMail P fl ms) {d : D} (h : okD d) : run P (k + 3) ("is_mail", none) [d] = pure (.bl (mlB d)) := is_mail_any W h.1 h.2.1 h.2.2
theorem need_mail_D (W : HMail P fl ms) {d : D} (h : okD d) : run P (k + 4) ("need_mail", none) [d] = if mlB d then pure .non else M.raise "BadMail" := by
  show run P ((k + 3) + 1) _ _ = _
  rw [W.need_mail (k + 3) _ rfl, bodyM_F]
  unfold S_need_mail
  simp [is_mail_D W h]
  cases mlB d <;> simp
theorem all_flat_ints (A : List Int) : (A.map D.int).all flat = true := by simp [flat]
theorem okD_mail (A B : List Int) : okD (mailD A B) := by
  refine ⟨rfl, fun l e => ?_, fun l x e hx => ?_⟩
  · cases e; rfl
  · cases e
    simp only [List.mem_cons, List.not_mem_nil, or_false] at hx
    rcases hx with hx | hx <;> (cases hx; exact all_flat_ints _)
theorem mlB_mail {A B : List Int} : mlB (mailD A B) = (bundB A B.length && bundB B A.length) := by
  show (bunB (A.map D.int) ((B.map D.int).length : Int) && bunB (B.map D.int) ((A.map D.int).length : Int)) = _
  rw [bunB_ints, bunB_ints, List.length_map, List.length_map]
/-- a mail of the law: both bundles are bundles -/
structure IsMail (A B : List Int) : Prop where
  a : bundB A B.length = true
  b : bundB B A.length = true
theorem IsMail.ml {A B : List Int} (h : IsMail A B) : mlB (mailD A B) = true := by rw [mlB_mail, h.a, h.b]; rfl
theorem is_mail_eq (W : HMail P fl ms) {A B : List Int} : run P (k + 3) ("is_mail", none) [mailD A B] = pure (.bl (bundB A B.length && bundB B A.length)) := by rw [is_mail_D W (okD_mail A B), mlB_mail]
theorem need_mail_ok (W : HMail P fl ms) {A B : List Int} (hm : IsMail A B) : run P (k + 4) ("need_mail", none) [mailD A B] = pure .non := by rw [need_mail_D W (okD_mail A B), hm.ml]; rfl
/-! ### letters -/
def letB (m n : Nat) (d : D) : Bool := match d with
  | .tup [.int s, x] => if s = 0 then whoB x 0 ((m : Int) - 1) else if s = 1 then whoB x 0 ((n : Int) - 1) else false
  | _ => false
/-- of plain things -/
def okL (d : D) : Prop := flat d = true ∧ ∀ l, d = .tup l → l.all flat = true
theorem is_letter_D (W : HMail P fl ms) (L : HLet P fl ms) {x y : List D} {d : D} (h : okL d) : run P (k + 2) ("is_letter", none) [.tup [.tup x, .tup y], d] = pure (.bl (letB x.length y.length d)) := by
  show run P ((k + 1) + 1) _ _ = _
  rw [L.is_letter (k + 1) _ rfl, bodyM_F]
  unfold S_is_letter
  obtain ⟨h1, h2⟩ := h
  cases d with
  | ref n => cases h1
  | scr l => cases h1
  | tup l =>
    by_cases hl : l.length = 2
    · match l, hl with
      | [a, b], _ =>
        have hf := h2 _ rfl
        simp only [List.all_cons, List.all_nil, Bool.and_true, Bool.and_eq_true] at hf
        cases a with
        | ref n => exact absurd hf.1 (by simp [flat])
        | scr n => exact absurd hf.1 (by simp [flat])
        | int s =>
          by_cases s0 : s = 0
          · subst s0
            simp [is_whole_any W.is_whole hf.2, is_whole_int W.is_whole, letB]
          · by_cases s1 : s = 1
            · subst s1
              simp [is_whole_any W.is_whole hf.2, is_whole_int W.is_whole, letB]
            · have e : (decide (0 ≤ s) && decide (s ≤ 1)) = false := by
                rcases Int.lt_or_le s 0 with q | q
                · simp; omega
                · simp; omega
              simp [is_whole_int W.is_whole, e, letB, s0, s1]
        | _ => simp [is_whole_any W.is_whole hf.1, whoB, letB]
    · have e : letB x.length y.length (.tup l) = false := by
        unfold letB
        split
        · rename_i e; cases e; simp at hl
        · rfl
      have : ((l.length : Int) = 2) = False := by simp; omega
      simp [e, this]
  | _ => simp [letB]
theorem need_letter_D (W : HMail P fl ms) (L : HLet P fl ms) {x y : List D} {d : D} (h : okL d) : run P (k + 3) ("need_letter", none) [.tup [.tup x, .tup y], d] = if letB x.length y.length d then pure .non else M.raise "BadLetter" := by
  show run P ((k + 2) + 1) _ _ = _
  rw [L.need_letter (k + 2) _ rfl, bodyM_F]
  unfold S_need_letter
  simp [is_letter_D W L h]
  cases letB x.length y.length d <;> simp
end
end Cr
set_option Elab.async false
set_option linter.all false
set_option maxRecDepth 100000
set_option maxHeartbeats 1000000
/-! Equality of data; loops; pairs. -/
namespace Cr
open PySem
/-! ### equality -/
/-- d is the data p, read n deep -/
def Em (n : Nat) (d : D) (p : PyData) : Prop := ∀ k h, n ≤ k → emb k h d = some p
theorem em_int {i : Int} : Em 1 (.int i) (.int i) := fun k h hk => by
  cases k with
  | zero => omega
  | succ k => rfl
theorem em_non : Em 1 .non .none := fun k h hk => by
  cases k with
  | zero => omega
  | succ k => rfl
theorem em_bl {b : Bool} : Em 1 (.bl b) (.bool b) := fun k h hk => by
  cases k with
  | zero => omega
  | succ k => rfl
theorem mapM_em {β : Type} {f : β → D} {g : β → PyData} {k : Nat} {h : AH} : ∀ {l : List β}, (∀ b ∈ l, emb k h (f b) = some (g b)) → (l.map f).mapM (emb k h) = some (l.map g)
  | [], _ => rfl
  | b :: l, hl => by
    rw [List.map_cons, List.mapM_cons, hl b List.mem_cons_self, mapM_em fun c hc => hl c (List.mem_cons_of_mem _ hc)]
    rfl
theorem em_tup {β : Type} {n : Nat} {l : List β} {f : β → D} {g : β → PyData} (h : ∀ b ∈ l, Em n (f b) (g b)) : Em (n + 1) (.tup (l.map f)) (.tuple (l.map g)) := fun k hh hk => by
  cases k with
  | zero => omega
  | succ k =>
    show ((l.map f).mapM (emb k hh)).map PyData.tuple = _
    rw [mapM_em fun b hb => h b hb k hh (by omega)]
    rfl
theorem em_lst {β : Type} {n : Nat} {l : List β} {f : β → D} {g : β → PyData} (h : ∀ b ∈ l, Em n (f b) (g b)) : Em (n + 1) (.lst (l.map f)) (.list (l.map g)) := fun k hh hk => by
  cases k with
  | zero => omega
  | succ k =>
    show ((l.map f).mapM (emb k hh)).map PyData.list = _
    rw [mapM_em fun b hb => h b hb k hh (by omega)]
    rfl
theorem em_pair {n : Nat} {a b : D} {p q : PyData} (h1 : Em n a p) (h2 : Em n b q) : Em (n + 1) (.tup [a, b]) (.tuple [p, q]) := fun k hh hk => by
  cases k with
  | zero => omega
  | succ k =>
    show (List.mapM (emb k hh) [a, b]).map PyData.tuple = _
    rw [List.mapM_cons, List.mapM_cons, h1 k hh (by omega), h2 k hh (by omega)]
    rfl
theorem Em.mono {n m : Nat} {d : D} {p : PyData} (h : Em n d p) (hm : n ≤ m) : Em m d p := fun k hh hk => h k hh (by omega)
theorem eq_of {a b : D} {p q : PyData} (h1 : Em 8 a p) (h2 : Em 8 b q) : cmpM .Eq a b = pure (PyData.eqv p q) := by
  funext h
  show eqM a b h = _
  unfold eqM
  rw [h1 8 h (Nat.le_refl _), h2 8 h (Nat.le_refl _)]
  rfl
theorem ne_of {a b : D} {p q : PyData} (h1 : Em 8 a p) (h2 : Em 8 b q) : cmpM .NotEq a b = pure (!PyData.eqv p q) := by
  funext h
  show M.bind (eqM a b) (fun c => M.pure (!c)) h = _
  unfold M.bind eqM
  rw [h1 8 h (Nat.le_refl _), h2 8 h (Nat.le_refl _)]
  rfl
theorem eqvAll_map {β : Type} [DecidableEq β] {g : β → PyData} (hg : ∀ a b, PyData.eqv (g a) (g b) = decide (a = b)) : ∀ l r : List β, PyData.eqvAll (l.map g) (r.map g) = decide (l = r)
  | [], [] => by simp [PyData.eqvAll]
  | [], _ :: _ => by simp [PyData.eqvAll]
  | _ :: _, [] => by simp [PyData.eqvAll]
  | a :: l, b :: r => by
    have ih := eqvAll_map hg l r
    simp only [List.map_cons, PyData.eqvAll, hg, ih]
    by_cases h1 : a = b <;> by_cases h2 : l = r <;> simp [h1, h2]
theorem eqv_list {β : Type} [DecidableEq β] {g : β → PyData} (hg : ∀ a b, PyData.eqv (g a) (g b) = decide (a = b)) (l r : List β) : PyData.eqv (.list (l.map g)) (.list (r.map g)) = decide (l = r) := by
  show PyData.eqvAll _ _ = _
  exact eqvAll_map hg l r
theorem eqv_tuple {β : Type} [DecidableEq β] {g : β → PyData} (hg : ∀ a b, PyData.eqv (g a) (g b) = decide (a = b)) (l r : List β) : PyData.eqv (.tuple (l.map g)) (.tuple (r.map g)) = decide (l = r) := by
  show PyData.eqvAll _ _ = _
  exact eqvAll_map hg l r
/-! ### pairs -/
def prD (p : Nat × Nat) : D := .tup [.int p.1, .int p.2]
def prP (p : Nat × Nat) : PyData := .tuple [.int p.1, .int p.2]
theorem em_pr (p : Nat × Nat) : Em 2 (prD p) (prP p) := em_pair em_int em_int
theorem eqv_pr (p q : Nat × Nat) : PyData.eqv (prP p) (prP q) = decide (p = q) := by
  obtain ⟨a, b⟩ := p
  obtain ⟨c, d⟩ := q
  show (PyData.eqv (.int a) (.int c) && (PyData.eqv (.int b) (.int d) && true)) = _
  rw [eqv_int, eqv_int]
  have e1 : decide ((a : Int) = c) = decide (a = c) := by simp only [Int.natCast_inj]
  have e2 : decide ((b : Int) = d) = decide (b = d) := by simp only [Int.natCast_inj]
  rw [e1, e2]
  by_cases h1 : a = c <;> by_cases h2 : b = d <;> simp [h1, h2]
theorem eq_prs {l r : List (Nat × Nat)} : cmpM .Eq (.lst (l.map prD)) (.lst (r.map prD)) = pure (decide (l = r)) := by
  rw [eq_of (em_lst (n := 7) fun b _ => (em_pr b).mono (by omega)) (em_lst (n := 7) fun b _ => (em_pr b).mono (by omega)), eqv_list eqv_pr]
def prs (m n : Nat) : List (Nat × Nat) := (List.range m).flatMap fun i => (List.range n).map fun j => (i, j)
theorem prs_succ {m n : Nat} : prs (m + 1) n = prs m n ++ (List.range n).map fun j => (m, j) := by
  unfold prs
  rw [List.range_succ, List.flatMap_append]
  simp
theorem prs_length {m n : Nat} : (prs m n).length = m * n := by
  induction m with
  | zero => simp [prs]
  | succ m ih => rw [prs_succ, List.length_append, ih, List.length_map, List.length_range, Nat.succ_mul]
theorem mem_prs {m n : Nat} {p : Nat × Nat} : p ∈ prs m n ↔ p.1 < m ∧ p.2 < n := by
  unfold prs
  simp only [List.mem_flatMap, List.mem_map, List.mem_range]
  constructor
  · rintro ⟨i, hi, j, hj, rfl⟩
    exact ⟨hi, hj⟩
  · rintro ⟨h1, h2⟩
    exact ⟨p.1, h1, p.2, h2, rfl⟩
/-! ### loops -/
theorem forFix_inv {B : D → Env → AH → RS} : ∀ {l : List D} {I : Nat → Env → AH → Prop} (hs : ∀ i d ρ h, l[i]? = some d → I i ρ h → ∃ ρ' h', B d ρ h = .next ρ' h' ∧ I (i + 1) ρ' h') {ρ : Env} {h : AH} (h0 : I 0 ρ h), ∃ ρ' h', forFix B l ρ h = .next ρ' h' ∧ I l.length ρ' h'
  | [], I, hs, ρ, h, h0 => ⟨ρ, h, rfl, h0⟩
  | d :: r, I, hs, ρ, h, h0 => by
    obtain ⟨ρ1, h1, e1, i1⟩ := hs 0 d ρ h rfl h0
    obtain ⟨ρ2, h2, e2, i2⟩ := forFix_inv (B := B) (l := r) (I := fun i => I (i + 1)) (fun i d ρ h hd hi => hs (i + 1) d ρ h (by simpa using hd) hi) i1
    refine ⟨ρ2, h2, ?_, i2⟩
    unfold forFix
    rw [e1]
    exact e2
theorem turn_N {i : Nat} {B : Env → AH → RS} {d : D} {ρ : Env} {h : AH} : turnS (stN i) B d ρ h = B (ρ.set i (some d)) h := rfl
theorem rng_nat {n : Nat} (hn : n ≤ 1000000) : rng1M (.int n) = pure (.fix ((List.range n).map fun (k : Nat) => .int k)) := by
  show (if rngOk n then pure (.fix (rangeL 0 n)) else M.stuck : M ItK) = _
  have h1 : rngOk n = true := by unfold rngOk; simp; omega
  rw [if_pos h1]
  unfold rangeL
  simp
theorem bF_for {I0 : Env → M ItK} {B : D → Env → AH → RS} {R : Env → AH → RS} {ρ : Env} {h h1 : AH} {l : List D} {r : Cr.R D} (I : Nat → Env → AH → Prop) (e1 : I0 ρ h = .ok (.fix l) h1) (h0 : I 0 ρ h1)
    (hs : ∀ i d ρ h, l[i]? = some d → I i ρ h → ∃ ρ' h', B d ρ h = .next ρ' h' ∧ I (i + 1) ρ' h') (e3 : ∀ ρ' h', I l.length ρ' h' → bodyF R ρ' h' = r) :
    bodyF (seqS (fun ρ => liftE (I0 ρ) ρ fun it h => loopOf B it ρ h) R) ρ h = r := by
  obtain ⟨ρ', h2, e2, q⟩ := forFix_inv hs h0
  rw [← e3 ρ' h2 q]
  unfold bodyF seqS liftE
  dsimp only
  rw [e1]
  dsimp only
  unfold loopOf
  dsimp only
  rw [e2]
theorem get_range {n i : Nat} {d : D} (hd : ((List.range n).map fun (k : Nat) => D.int k)[i]? = some d) : i < n ∧ d = .int (i : Nat) := by
  rw [List.getElem?_map] at hd
  cases q : (List.range n)[i]? with
  | none => rw [q] at hd; cases hd
  | some j =>
    rw [q] at hd
    obtain ⟨h1, h2⟩ := List.getElem?_eq_some_iff.mp q
    rw [List.getElem_range] at h2
    subst h2
    cases hd
    exact ⟨by simpa using h1, rfl⟩
theorem add_lst {l r : List D} (h : l.length + r.length ≤ most) : binM .Add false (.lst l) (.lst r) = pure (.lst (l ++ r)) := by
  show (if l.length + r.length ≤ most then newL false (l ++ r) else M.stuck : M D) = _
  rw [if_pos h]
  rfl
section
variable {P : Prog} {fl ms : List (Str × Str)} {k : Nat} {A B : List Int}
theorem IsMail.la (h : IsMail A B) : A.length ≤ 7 := by
  have := h.a
  unfold bundB at this
  simp only [Bool.and_eq_true, decide_eq_true_eq] at this
  omega
theorem IsMail.lb (h : IsMail A B) : B.length ≤ 7 := by
  have := h.b
  unfold bundB at this
  simp only [Bool.and_eq_true, decide_eq_true_eq] at this
  omega
structure HBar (P : Prog) (fl ms : List (Str × Str)) : Prop where
  all_pairs : P.has ("all_pairs", none) 1 3 (S_all_pairs fl ms)
  all_barring : P.has ("all_barring", none) 1 3 (S_all_barring fl ms)
  is_there : P.has ("is_there", none) 1 0 (S_is_there fl ms)
variable (W : HBar P fl ms)
include W
theorem all_pairs_eq (ha : A.length ≤ 7) (hb : B.length ≤ 7) : run P (k + 1) ("all_pairs", none) [mailD A B] = pure (.lst ((prs A.length B.length).map prD)) := by
  rw [W.all_pairs k _ rfl, bodyM_F]
  funext h
  unfold S_all_pairs
  simp only [List.map_cons, List.map_nil, List.replicate, List.cons_append, List.nil_append, bF_asg, pure_bind, bind_assoc, dispM_0, stN_eq, List.set_cons_zero, List.set_cons_succ]
  refine bF_for (fun i ρ h' => ∃ f, ρ = [some (mailD A B), some (.lst ((prs i B.length).map prD)), f, none] ∧ h' = h) (l := (List.range A.length).map fun (k : Nat) => .int k) (h1 := h) ?_ ⟨none, rfl, rfl⟩ ?_ ?_
  · simp [rng_nat (n := A.length) (by omega)]
    rfl
  · rintro i d ρ h' hd ⟨f, rfl, rfl⟩
    obtain ⟨hi, rfl⟩ := get_range hd
    have hz : (prs i B.length).length + B.length ≤ most := by
      rw [prs_length]
      have : i * B.length ≤ 7 * 7 := Nat.mul_le_mul (by omega) hb
      have : most = 1000000 := rfl
      omega
    refine ⟨[some (mailD A B), some (.lst ((prs (i + 1) B.length).map prD)), some (.int i), none], h', ?_, some (.int i), rfl, rfl⟩
    rw [turn_N]
    unfold L1_all_pairs seqS liftE
    simp only [List.set_cons_zero, List.set_cons_succ, getV_0, getV_s, pure_bind, bind_assoc, idx_t1, len_tup, List.length_map, rng_nat (n := B.length) (by omega)]
    rw [comp_of (l := List.range B.length) (f := fun (k : Nat) => D.int k) (F := prD) (g := fun j => (i, j))]
    · simp only [nox_pure, pure_bind, newL_f]
      rw [add_lst (by simpa using hz)]
      simp only [pure_bind, List.set_cons_zero, List.set_cons_succ, ← List.map_append, ← prs_succ]
      rfl
    · intro j hj
      rw [turnC_eq]
      simp [wipeE]
      rfl
  · rintro ρ' h' ⟨f, rfl, rfl⟩
    simp
end
end Cr
set_option Elab.async false
set_option linter.all false
set_option maxRecDepth 100000
set_option maxHeartbeats 1000000
/-! What the defs of mails answer: pairs; steps. -/
namespace Cr
open PySem
def barB (A B : List Int) (p : Nat × Nat) : Bool := decide ((p.2 : Int) < A.getD p.1 0) && decide ((p.1 : Int) < B.getD p.2 0)
def barr (A B : List Int) : List (Nat × Nat) := (prs A.length B.length).filter (barB A B)
def crsB (A B : List Int) (p : Nat × Nat) : Bool := decide (A.getD p.1 0 ≤ (p.2 : Int)) && decide (B.getD p.2 0 ≤ (p.1 : Int))
def crss (A B : List Int) : List (Nat × Nat) := (prs A.length B.length).filter (crsB A B)
theorem stT_pr {i j : Nat} {p : Nat × Nat} {ρ : Env} : stT [i, j] (prD p) ρ = pure ((ρ.set i (some (.int p.1))).set j (some (.int p.2))) := rfl
theorem if_and {α : Type} {a b : Bool} {x : α} {y : Option α} : (if (if a then b else false) then some x else none) = if a && b then some x else none := by cases a <;> cases b <;> rfl
section
variable {P : Prog} {fl ms : List (Str × Str)} {k : Nat} {A B : List Int}
variable (W : HBar P fl ms)
include W
theorem all_barring_eq (ha : A.length ≤ 7) (hb : B.length ≤ 7) : run P (k + 2) ("all_barring", none) [mailD A B] = pure (.lst ((barr A B).map prD)) := by
  show run P ((k + 1) + 1) _ _ = _
  rw [W.all_barring (k + 1) _ rfl, bodyM_F]
  unfold S_all_barring
  simp only [List.map_cons, List.map_nil, List.replicate, List.cons_append, List.nil_append, bF_asg, bF_ret, getV_0, getV_s, pure_bind, bind_assoc, all_pairs_eq W ha hb, stN_eq, List.set_cons_zero, List.set_cons_succ, it_lst]
  rw [comp_if (l := prs A.length B.length) (f := prD) (F := prD) (g := fun p => p) (t := barB A B)]
  · simp [barr]
  · intro p hp
    obtain ⟨h1, h2⟩ := mem_prs.mp hp
    rw [turnC_eq]
    simp only [wipeE, stT_pr, pure_bind, List.set_cons_zero, List.set_cons_succ, getV_0, getV_s, idx_t0, idx_t1, idx_bun h1, idx_bun h2, cmp_gt, tupM_2]
    unfold barB
    cases decide ((p.2 : Int) < A.getD p.1 0) <;> cases decide ((p.1 : Int) < B.getD p.2 0) <;> rfl
theorem is_there_eq (ha : A.length ≤ 7) (hb : B.length ≤ 7) : run P (k + 3) ("is_there", none) [mailD A B] = pure (.bl (decide (barr A B = []))) := by
  show run P ((k + 2) + 1) _ _ = _
  rw [W.is_there (k + 2) _ rfl, bodyM_F]
  unfold S_is_there
  have e := eq_prs (l := barr A B) (r := [])
  simp only [List.map_nil] at e
  simp [all_barring_eq W ha hb, e]
theorem can_be_eq (Mh : HMail P fl ms) (hC : P.has ("can_be", none) 1 0 (S_can_be fl ms)) (hm : IsMail A B) : run P (k + 5) ("can_be", none) [mailD A B] = pure (.bl (decide (barr A B = []))) := by
  show run P ((k + 4) + 1) _ _ = _
  rw [hC (k + 4) _ rfl, bodyM_F]
  unfold S_can_be
  simp [need_mail_ok Mh hm, is_there_eq W (k := k + 1) hm.la hm.lb]
theorem all_crossed_eq (hC : P.has ("all_crossed", none) 1 2 (S_all_crossed fl ms)) (ha : A.length ≤ 7) (hb : B.length ≤ 7) : run P (k + 2) ("all_crossed", none) [mailD A B] = pure (.lst ((crss A B).map prD)) := by
  show run P ((k + 1) + 1) _ _ = _
  rw [hC (k + 1) _ rfl, bodyM_F]
  unfold S_all_crossed
  simp only [List.map_cons, List.map_nil, List.replicate, List.cons_append, List.nil_append, bF_asg, bF_ret, getV_0, getV_s, pure_bind, bind_assoc, all_pairs_eq W ha hb, stN_eq, List.set_cons_zero, List.set_cons_succ, it_lst]
  rw [comp_if (l := prs A.length B.length) (f := prD) (F := prD) (g := fun p => p) (t := crsB A B)]
  · simp [crss]
  · intro p hp
    obtain ⟨h1, h2⟩ := mem_prs.mp hp
    rw [turnC_eq]
    simp only [wipeE, stT_pr, pure_bind, List.set_cons_zero, List.set_cons_succ, getV_0, getV_s, idx_t0, idx_t1, idx_bun h1, idx_bun h2, cmp_le, tupM_2]
    unfold crsB
    cases decide (A.getD p.1 0 ≤ (p.2 : Int)) <;> cases decide (B.getD p.2 0 ≤ (p.1 : Int)) <;> rfl
theorem crossed_eq (Mh : HMail P fl ms) (hC : P.has ("all_crossed", none) 1 2 (S_all_crossed fl ms)) (hD : P.has ("crossed", none) 1 0 (S_crossed fl ms)) (hm : IsMail A B) : run P (k + 5) ("crossed", none) [mailD A B] = pure (.lst ((crss A B).map prD)) := by
  show run P ((k + 4) + 1) _ _ = _
  rw [hD (k + 4) _ rfl, bodyM_F]
  unfold S_crossed
  simp [need_mail_ok Mh hm, all_crossed_eq W (k := k + 2) hC hm.la hm.lb]
def maxD (A : List Int) : Int := match A with
  | [] => 0
  | x :: r => maxF x r
omit W in
theorem def_max {A : List Int} : b_defM maxF (bunD A) (.int 0) = pure (.int (maxD A)) := by
  show (match intsD (A.map D.int) with | some [] => pure (.int 0) | some (x :: r) => pure (.int (maxF x r)) | none => M.stuck : M D) = _
  rw [intsD_map]
  cases A <;> rfl
theorem unread_eq (Mh : HMail P fl ms) (hU : P.has ("unread", none) 1 0 (S_unread fl ms)) (hm : IsMail A B) : run P (k + 5) ("unread", none) [mailD A B] = pure (.tup [.int ((A.length : Int) - maxD B), .int ((B.length : Int) - maxD A)]) := by
  show run P ((k + 4) + 1) _ _ = _
  rw [hU (k + 4) _ rfl, bodyM_F]
  unfold S_unread
  simp [need_mail_ok Mh hm, def_max]
end
/-! ### steps -/
section
variable {P : Prog} {fl ms : List (Str × Str)} {k : Nat} {A B : List Int} {i j : Nat}
def may0 (A : List Int) (i j : Nat) : Bool := decide (i < A.length) && decide (A.getD i 0 ≤ (j : Int))
theorem may_write0 (h : P.has ("may_write", none) 3 0 (S_may_write fl ms)) : run P (k + 1) ("may_write", none) [mailD A B, prD (i, j), .int 0] = pure (.bl (may0 A i j)) := by
  rw [h k _ rfl, bodyM_F]
  unfold S_may_write may0
  by_cases hi : i < A.length
  · simp [prD, hi, idx_bun hi]
  · simp [prD, hi]
theorem may_write1 (h : P.has ("may_write", none) 3 0 (S_may_write fl ms)) : run P (k + 1) ("may_write", none) [mailD A B, prD (i, j), .int 1] = pure (.bl (may0 B j i)) := by
  rw [h k _ rfl, bodyM_F]
  unfold S_may_write may0
  by_cases hi : j < B.length
  · simp [prD, hi, idx_bun hi]
  · simp [prD, hi]
theorem after0 (h : P.has ("after", none) 2 0 (S_after fl ms)) : run P (k + 1) ("after", none) [prD (i, j), .int 0] = pure (prD (i + 1, j)) := by
  rw [h k _ rfl, bodyM_F]
  unfold S_after
  simp [prD]
theorem after1 (h : P.has ("after", none) 2 0 (S_after fl ms)) : run P (k + 1) ("after", none) [prD (i, j), .int 1] = pure (prD (i, j + 1)) := by
  rw [h k _ rfl, bodyM_F]
  unfold S_after
  simp [prD]
theorem end_of_eq (h : P.has ("end_of", none) 1 0 (S_end_of fl ms)) : run P (k + 1) ("end_of", none) [mailD A B] = pure (prD (A.length, B.length)) := by
  rw [h k _ rfl, bodyM_F]
  unfold S_end_of
  simp [prD]
end
end Cr
set_option Elab.async false
set_option linter.all false
set_option maxRecDepth 100000
set_option maxHeartbeats 1000000
/-! Counting ways. -/
namespace Cr
open PySem
theorem bind_app {α β : Type} {x : M α} {f : α → M β} {h : AH} : (x >>= f) h = match x h with | .ok a h' => f a h' | .exc c h' => .exc c h' | .stuck => .stuck := rfl
theorem pure_app {α : Type} {a : α} {h : AH} : (pure a : M α) h = .ok a h := rfl
theorem nox_app {α : Type} {x : M α} {a : α} {h h' : AH} (e : x h = .ok a h') : M.nox x h = .ok a h' := by unfold M.nox; rw [e]
theorem fld_at {fl : List (Str × Str)} {h : AH} {w : Nat} {c f : Str} {fs : List (Str × D)} {d : D} (e : h[w]? = some (.ins c fs)) (hm : (c, f) ∈ fl) (hl : fs.lookup f = some d) : fldM fl (.ref w) f h = .ok d h := by
  show (getC w >>= _) h = _
  rw [bind_ok (getC_ok e)]
  show (if (c, f) ∈ fl then ofOpt (fs.lookup f) else M.stuck : M D) h = _
  rw [if_pos hm, hl]
  rfl
theorem meth_at {ms : List (Str × Str)} {o : Ora} {h : AH} {w : Nat} {c m : Str} {fs : List (Str × D)} {args : M (List D)} {l : List D} (e : h[w]? = some (.ins c fs)) (hm : (c, m) ∈ ms) (hl : fs.lookup m = none) (ha : args = pure l) :
    methM ms o m (.ref w) args h = o (c, some m) (.ref w :: l) h := by
  show (getC w >>= _) h = _
  rw [bind_ok (getC_ok e)]
  show (if (fs.lookup m).isNone = true ∧ (c, m) ∈ ms then (args >>= fun l => o (c, some m) (.ref w :: l)) else M.stuck : M D) h = _
  rw [if_pos ⟨by rw [hl]; rfl, hm⟩, ha, pure_bind]
/-! ### keys -/
theorem keys_pr {p : Nat × Nat} : toKeys (prD p) = some [.inl (p.1 : Int), .inl (p.2 : Int)] := rfl
abbrev kyP (p : Nat × Nat) : List Key := [.inl (p.1 : Int), .inl (p.2 : Int)]
theorem kyP_inj {p q : Nat × Nat} (h : kyP p = kyP q) : p = q := by
  obtain ⟨a, b⟩ := p
  obtain ⟨c, d⟩ := q
  simp only [kyP, List.cons.injEq, Sum.inl.injEq, and_true] at h
  rw [Int.ofNat.inj h.1, Int.ofNat.inj h.2]
theorem in_dct {h : AH} {d : Nat} {lk : Bool} {kvs : List (List Key × D)} {p : Nat × Nat} (e : h[d]? = some (.dct lk kvs)) : cmpM .NotIn (prD p) (.ref d) h = .ok (!(getK kvs (kyP p)).isSome) h := by
  have q : inM (prD p) (.ref d) h = .ok (getK kvs (kyP p)).isSome h := by
    show (getC d >>= _) h = _
    rw [bind_ok (getC_ok e)]
    rfl
  show M.bind (inM (prD p) (.ref d)) (fun c => M.pure (!c)) h = _
  unfold M.bind
  rw [q]
theorem idx_dct {h : AH} {d : Nat} {lk : Bool} {kvs : List (List Key × D)} {p : Nat × Nat} {v : D} (e : h[d]? = some (.dct lk kvs)) (hv : getK kvs (kyP p) = some v) : idxM (.ref d) (prD p) h = .ok v h := by
  show (getC d >>= _) h = _
  rw [bind_ok (getC_ok e)]
  show (match getK kvs (kyP p) with | some d => pure d | none => M.stuck : M D) h = _
  rw [hv]
  rfl
theorem store_dct {h : AH} {d : Nat} {kvs : List (List Key × D)} {p : Nat × Nat} {v : D} (e : h[d]? = some (.dct false kvs)) (hl : kvs.length < 1000) : storeM (.ref d) (prD p) v h = .ok () (h.set d (.dct false (putK kvs (kyP p) v))) := by
  show (getC d >>= _) h = _
  rw [bind_ok (getC_ok e)]
  show (if kvs.length < 1000 then setC d (.dct false (putK kvs (kyP p) v)) else M.stuck : M Unit) h = _
  rw [if_pos hl]
  rfl
theorem getK_put {kvs : List (List Key × D)} {q q' : List Key} {v : D} (hn : getK kvs q = none) : getK (putK kvs q v) q' = if q' = q then some v else getK kvs q' := by
  have hq : kvs.find? (fun p => decide (p.1 = q)) = none := by
    unfold getK at hn
    simpa using hn
  have ha : kvs.any (fun p => decide (p.1 = q)) = false := by
    rw [List.find?_eq_none] at hq
    cases z : kvs.any (fun p => decide (p.1 = q)) with
    | false => rfl
    | true =>
      obtain ⟨x, hx, e⟩ := List.any_eq_true.mp z
      exact absurd e (hq x hx)
  have hp : putK kvs q v = kvs ++ [(q, v)] := by
    unfold putK
    rw [ha]
    rfl
  rw [hp]
  unfold getK
  rw [List.find?_append]
  by_cases h : q' = q
  · subst h
    rw [hq, if_pos rfl]
    simp
  · rw [if_neg h]
    have : ¬ q = q' := fun z => h z.symm
    simp [this]
theorem find_map {q : List Key} {v : D} (q' : List Key) : ∀ kvs : List (List Key × D), (kvs.map fun p => if p.1 = q then (p.1, v) else p).find? (fun p => decide (p.1 = q')) = (kvs.find? fun p => decide (p.1 = q')).map fun p => if p.1 = q then (p.1, v) else p
  | [] => rfl
  | p :: r => by
    have ih := find_map (q := q) (v := v) q' r
    rw [List.map_cons, List.find?_cons, List.find?_cons]
    have e : (if p.1 = q then (p.1, v) else p).1 = p.1 := by split <;> rfl
    rw [e]
    cases decide (p.1 = q') with
    | true => rfl
    | false => exact ih
theorem getK_has {kvs : List (List Key × D)} {q q' : List Key} {v u : D} (hn : getK kvs q = some u) : getK (putK kvs q v) q' = (if q' = q then some v else getK kvs q') ∧ (putK kvs q v).map (·.1) = kvs.map (·.1) := by
  obtain ⟨x, hx, rfl⟩ : ∃ x, kvs.find? (fun p => decide (p.1 = q)) = some x ∧ x.2 = u := by
    unfold getK at hn
    exact Option.map_eq_some_iff.mp hn
  have ha : kvs.any (fun p => decide (p.1 = q)) = true := List.any_eq_true.mpr ⟨x, List.mem_of_find?_eq_some hx, List.find?_some (p := fun p : List Key × D => decide (p.1 = q)) hx⟩
  have hp : putK kvs q v = kvs.map fun p => if p.1 = q then (p.1, v) else p := by
    unfold putK
    rw [ha]
    rfl
  rw [hp]
  constructor
  · unfold getK
    rw [find_map]
    by_cases h : q' = q
    · subst h
      rw [hx, if_pos rfl]
      have : x.1 = q' := of_decide_eq_true (List.find?_some (p := fun p : List Key × D => decide (p.1 = q')) hx)
      simp [this]
    · rw [if_neg h]
      cases e : kvs.find? (fun p => decide (p.1 = q')) with
      | none => rfl
      | some y =>
        have : y.1 = q' := of_decide_eq_true (List.find?_some (p := fun p : List Key × D => decide (p.1 = q')) e)
        have : ¬ y.1 = q := fun z => h (this.symm.trans z)
        simp [this]
  · rw [List.map_map]
    refine List.map_congr_left fun p _ => ?_
    show (if p.1 = q then (p.1, v) else p).1 = p.1
    split <;> rfl
theorem put_new {kvs : List (List Key × D)} {q : List Key} {v : D} (hn : getK kvs q = none) : putK kvs q v = kvs ++ [(q, v)] := by
  have hq : kvs.find? (fun p => decide (p.1 = q)) = none := by
    unfold getK at hn
    simpa using hn
  have ha : kvs.any (fun p => decide (p.1 = q)) = false := by
    rw [List.find?_eq_none] at hq
    cases z : kvs.any (fun p => decide (p.1 = q)) with
    | false => rfl
    | true =>
      obtain ⟨x, hx, e⟩ := List.any_eq_true.mp z
      exact absurd e (hq x hx)
  unfold putK
  rw [ha]
  rfl
theorem not_key {kvs : List (List Key × D)} {q : List Key} (hn : getK kvs q = none) : q ∉ kvs.map (·.1) := fun hm => by
  obtain ⟨x, hx, e⟩ := List.mem_map.mp hm
  have hq : kvs.find? (fun p => decide (p.1 = q)) = none := by
    unfold getK at hn
    simpa using hn
  rw [List.find?_eq_none] at hq
  exact hq x hx (by simpa using e)
theorem nodup_le {β : Type} [DecidableEq β] : ∀ {l b : List β}, l.Nodup → (∀ x ∈ l, x ∈ b) → l.length ≤ b.length
  | [], _, _, _ => Nat.zero_le _
  | a :: l, b, hn, hs => by
    obtain ⟨h1, h2⟩ := List.nodup_cons.mp hn
    have ha := hs a List.mem_cons_self
    have ih := nodup_le (l := l) (b := b.erase a) h2 fun x hx => by
      have ne : x ≠ a := fun z => h1 (z ▸ hx)
      exact (List.mem_erase_of_ne ne).mpr (hs x (List.mem_cons_of_mem _ hx))
    have e := List.length_erase_of_mem ha
    have : 0 < b.length := List.length_pos_of_mem ha
    simp only [List.length_cons]
    omega
/-! ### the number of ways -/
def waysF (A B : List Int) : Nat → Nat → Nat → Int
  | 0, _, _ => 1
  | f + 1, i, j => (if may0 A i j then waysF A B f (i + 1) j else 0) + if may0 B j i then waysF A B f i (j + 1) else 0
def cnt (A B : List Int) (i j : Nat) : Int := waysF A B ((A.length - i) + (B.length - j)) i j
theorem cnt_end {A B : List Int} : cnt A B A.length B.length = 1 := by
  unfold cnt
  rw [Nat.sub_self, Nat.sub_self]
  rfl
theorem cnt_step {A B : List Int} {i j : Nat} (hi : i ≤ A.length) (hj : j ≤ B.length) (hne : (i, j) ≠ (A.length, B.length)) :
    cnt A B i j = (if may0 A i j then cnt A B (i + 1) j else 0) + if may0 B j i then cnt A B i (j + 1) else 0 := by
  have pos : 0 < (A.length - i) + (B.length - j) := by
    rcases Nat.lt_or_ge i A.length with h | h
    · omega
    · rcases Nat.lt_or_ge j B.length with h' | h'
      · omega
      · exact absurd (by rw [show i = A.length by omega, show j = B.length by omega]) hne
  obtain ⟨f, hf⟩ := Nat.exists_eq_succ_of_ne_zero (Nat.ne_of_gt pos)
  have e1 : may0 A i j = true → (A.length - (i + 1)) + (B.length - j) = f := fun h => by
    unfold may0 at h
    simp at h
    omega
  have e2 : may0 B j i = true → (A.length - i) + (B.length - (j + 1)) = f := fun h => by
    unfold may0 at h
    simp at h
    omega
  unfold cnt
  rw [hf]
  show (if may0 A i j then waysF A B f (i + 1) j else 0) + (if may0 B j i then waysF A B f i (j + 1) else 0) = _
  congr 1
  · split
    · rename_i h; rw [e1 h]
    · rfl
  · split
    · rename_i h; rw [e2 h]
    · rfl
/-! ### the object -/
structure WaysAt (A B : List Int) (w d : Nat) (h : AH) (kvs : List (List Key × D)) : Prop where
  hw : h[w]? = some (.ins "Ways" [("held", mailD A B), ("known", .ref d)])
  hd : h[d]? = some (.dct false kvs)
  ok : ∀ p v, getK kvs (kyP p) = some v → v = .int (cnt A B p.1 p.2)
  nd : (kvs.map (·.1)).Nodup
  box : ∀ q ∈ kvs.map (·.1), q ∈ (prs (A.length + 1) (B.length + 1)).map kyP
theorem WaysAt.ne {A B : List Int} {w d : Nat} {h : AH} {kvs : List (List Key × D)} (W : WaysAt A B w d h kvs) : w ≠ d := fun z => by
  have h1 := W.hw
  have h2 := W.hd
  rw [z, h2] at h1
  cases h1
theorem WaysAt.small {A B : List Int} {w d : Nat} {h : AH} {kvs : List (List Key × D)} (W : WaysAt A B w d h kvs) (ha : A.length ≤ 7) (hb : B.length ≤ 7) : kvs.length < 1000 := by
  have q := nodup_le W.nd W.box
  rw [List.length_map, List.length_map, prs_length] at q
  have : (A.length + 1) * (B.length + 1) ≤ 8 * 8 := Nat.mul_le_mul (by omega) (by omega)
  omega
theorem WaysAt.set {A B : List Int} {w d : Nat} {h : AH} {kvs kvs' : List (List Key × D)} (W : WaysAt A B w d h kvs) (W' : WaysAt A B w d (h.set d (.dct false kvs')) kvs') : ∀ kvs'', (h.set d (.dct false kvs')).set d (.dct false kvs'') = h.set d (.dct false kvs'') := fun kvs'' => by
  rw [List.set_set]
theorem WaysAt.put {A B : List Int} {w d : Nat} {h : AH} {kvs : List (List Key × D)} (W : WaysAt A B w d h kvs) {i j : Nat} (hi : i ≤ A.length) (hj : j ≤ B.length) :
    WaysAt A B w d (h.set d (.dct false (putK kvs (kyP (i, j)) (.int (cnt A B i j))))) (putK kvs (kyP (i, j)) (.int (cnt A B i j))) ∧ getK (putK kvs (kyP (i, j)) (.int (cnt A B i j))) (kyP (i, j)) = some (.int (cnt A B i j)) := by
  have hl : d < h.length := (List.getElem?_eq_some_iff.mp W.hd).1
  have ok : ∀ g : (∀ q', getK (putK kvs (kyP (i, j)) (.int (cnt A B i j))) q' = if q' = kyP (i, j) then some (.int (cnt A B i j)) else getK kvs q'), ∀ p v, getK (putK kvs (kyP (i, j)) (.int (cnt A B i j))) (kyP p) = some v → v = .int (cnt A B p.1 p.2) := fun g p v e => by
    rw [g] at e
    split at e
    · rename_i z
      have z := kyP_inj z
      subst z
      exact (Option.some.inj e).symm
    · exact W.ok p v e
  cases hn : getK kvs (kyP (i, j)) with
  | none =>
    have g := fun q' => getK_put (q' := q') (v := .int (cnt A B i j)) hn
    refine ⟨⟨by rw [List.getElem?_set_ne (Ne.symm W.ne)]; exact W.hw, by rw [List.getElem?_set_self hl], ok g, ?_, fun q hq => ?_⟩, by rw [g, if_pos rfl]⟩
    · rw [put_new hn, List.map_append, List.nodup_append]
      refine ⟨W.nd, by simp, fun a ha b hb z => ?_⟩
      have e : b = kyP (i, j) := by simpa using hb
      exact not_key hn (by rw [← e, ← z]; exact ha)
    · rw [put_new hn, List.map_append] at hq
      rcases List.mem_append.mp hq with hq | hq
      · exact W.box q hq
      · have e : q = kyP (i, j) := by simpa using hq
        rw [e]
        exact List.mem_map.mpr ⟨(i, j), mem_prs.mpr ⟨by show i < _; omega, by show j < _; omega⟩, rfl⟩
  | some u =>
    have g := fun q' => (getK_has (q' := q') (v := .int (cnt A B i j)) hn).1
    have m := (getK_has (q' := kyP (i, j)) (v := .int (cnt A B i j)) hn).2
    refine ⟨⟨by rw [List.getElem?_set_ne (Ne.symm W.ne)]; exact W.hw, by rw [List.getElem?_set_self hl], ok g, by rw [m]; exact W.nd, fun q hq => ?_⟩, by rw [g, if_pos rfl]⟩
    rw [m] at hq
    exact W.box q hq
end Cr
set_option Elab.async false
set_option linter.all false
set_option maxRecDepth 100000
set_option maxHeartbeats 1000000
/-! Ways.count. -/
namespace Cr
open PySem
theorem eq_pr1 {p q : Nat × Nat} : cmpM .Eq (prD p) (prD q) = pure (decide (p = q)) := by
  rw [eq_of ((em_pr p).mono (by omega)) ((em_pr q).mono (by omega)), eqv_pr]
theorem ne_pr1 {p q : Nat × Nat} : cmpM .NotEq (prD p) (prD q) = pure (!decide (p = q)) := by
  rw [ne_of ((em_pr p).mono (by omega)) ((em_pr q).mono (by omega)), eqv_pr]
theorem comp_0 {body : D → M (Option D)} : compIt body (.fix []) = pure [] := rfl
theorem comp_1 {body : D → M (Option D)} {a : D} : compIt body (.fix [a]) = body a >>= fun x => pure x.toList := by
  show (body a >>= fun x => compFix body [] >>= fun l => pure (match x with | some y => y :: l | none => l)) = _
  congr
  funext x
  cases x <;> rfl
theorem sum_0 : b_sum [.lst []] = pure (.int 0) := sum_lst (l := [])
theorem sum_1 {a : Int} : b_sum [.lst [.int a]] = pure (.int (a + 0)) := sum_lst (l := [a])
theorem sum_2 {a b : Int} : b_sum [.lst [.int a, .int b]] = pure (.int (a + (b + 0))) := sum_lst (l := [a, b])
structure HWays (P : Prog) (fl ms : List (Str × Str)) : Prop where
  may : P.has ("may_write", none) 3 0 (S_may_write fl ms)
  after : P.has ("after", none) 2 0 (S_after fl ms)
  end_of : P.has ("end_of", none) 1 0 (S_end_of fl ms)
  init : P.has ("Ways", some "__init__") 2 0 (S_Ways_init fl ms)
  count : P.has ("Ways", some "count") 2 2 (S_Ways_count fl ms)
  fh : (("Ways" : Str), ("held" : Str)) ∈ fl
  fk : (("Ways" : Str), ("known" : Str)) ∈ fl
  mc : (("Ways" : Str), ("count" : Str)) ∈ ms
section
variable {P : Prog} {fl ms : List (Str × Str)} {k : Nat} {A B : List Int} (V : HWays P fl ms) (ha : A.length ≤ 7) (hb : B.length ≤ 7)
include V ha hb
theorem count_spec : ∀ (f i j : Nat), (A.length - i) + (B.length - j) = f → i ≤ A.length → j ≤ B.length → ∀ (w d : Nat) (h : AH) (kvs : List (List Key × D)), WaysAt A B w d h kvs →
    ∃ kvs', run P (k + f + 2) ("Ways", some "count") [.ref w, prD (i, j)] h = .ok (.int (cnt A B i j)) (h.set d (.dct false kvs')) ∧ WaysAt A B w d (h.set d (.dct false kvs')) kvs' := by
  intro f
  induction f with
  | zero =>
    intro i j hf hi hj w d h kvs W
    have ei : i = A.length := by omega
    have ej : j = B.length := by omega
    subst ei ej
    have hs : h.set d (.dct false kvs) = h := by
      obtain ⟨h1, h2⟩ := List.getElem?_eq_some_iff.mp W.hd
      rw [← h2]
      exact List.set_getElem_self h1
    refine ⟨kvs, ?_, by rw [hs]; exact W⟩
    rw [hs, cnt_end]
    show run P ((k + 0 + 1) + 1) _ _ h = _
    rw [V.count (k + 0 + 1) _ rfl, bodyM_F]
    unfold S_Ways_count
    simp only [List.map_cons, List.map_nil, List.replicate, List.cons_append, List.nil_append, bF_if, bF_assoc, bF_ret, getV_0, getV_s, pure_bind, bind_assoc]
    rw [bind_ok (fld_at W.hw V.fh rfl)]
    rw [end_of_eq V.end_of (k := k + 0), pure_bind, eq_pr1, pure_bind]
    simp
    rfl
  | succ f ih =>
    intro i j hf hi hj w d h kvs W
    have hne : (i, j) ≠ (A.length, B.length) := fun z => by
      cases z
      omega
    show ∃ kvs', run P ((k + f + 2) + 1) _ _ h = _ ∧ _
    rw [V.count (k + f + 2) _ rfl, bodyM_F]
    unfold S_Ways_count
    simp only [List.map_cons, List.map_nil, List.replicate, List.cons_append, List.nil_append, bF_if, bF_assoc, bF_ret, bF_asg, bF_expr, bF_next, getV_0, getV_s, pure_bind, bind_assoc, tupM_2, it_tup]
    rw [bind_ok (fld_at W.hw V.fh rfl), end_of_eq V.end_of (k := k + f + 1), pure_bind, eq_pr1, pure_bind, decide_eq_false hne]
    simp only [Bool.false_eq_true, if_false]
    rw [bind_ok (fld_at W.hw V.fk rfl), bind_ok (in_dct W.hd)]
    cases hg : getK kvs (kyP (i, j)) with
    | some v =>
      have hv := W.ok (i, j) v hg
      subst hv
      have hs : h.set d (.dct false kvs) = h := by
        obtain ⟨h1, h2⟩ := List.getElem?_eq_some_iff.mp W.hd
        rw [← h2]
        exact List.set_getElem_self h1
      refine ⟨kvs, ?_, by rw [hs]; exact W⟩
      simp only [Option.isSome_some, Bool.not_true, Bool.false_eq_true, if_false]
      rw [bind_ok (fld_at W.hw V.fk rfl), hs]
      exact idx_dct W.hd hg
    | none =>
      simp only [Option.isSome_none, Bool.not_false, if_true]
      rw [bind_ok (nox_app (a := (if may0 A i j then [D.int 0] else []) ++ (if may0 B j i then [D.int 1] else [])) (h' := h) ?e)]
      case e =>
        rw [comp_2]
        have t0 : ∀ (s : Int) (b : Bool), run P (k + f + 2) ("may_write", none) [mailD A B, prD (i, j), .int s] = pure (.bl b) → ∀ q, turnC (stN 3) (fun ρ => getV ρ 0 >>= fun x => fldM fl x "held" >>= fun x => getV ρ 1 >>= fun y => getV ρ 3 >>= fun z => run P (k + f + 2) ("may_write", none) [x, y, z] >>= fun x => asBool x) (fun ρ => getV ρ 3) (wipeE [some (.ref w), some (prD (i, j)), q, none] [3]) (.int s) h = .ok (if b then some (.int s) else none) h := fun s b e q => by
          rw [turnC_eq]
          simp only [wipeE, stN_eq, pure_bind, bind_assoc, List.set_cons_zero, List.set_cons_succ, getV_0, getV_s]
          rw [bind_ok (fld_at W.hw V.fh rfl), e]
          cases b <;> rfl
        rw [bind_ok (t0 0 _ (may_write0 V.may (k := k + f + 1)) _), bind_ok (t0 1 _ (may_write1 V.may (k := k + f + 1)) _)]
        cases may0 A i j <;> cases may0 B j i <;> rfl
      simp only [newL_f, pure_bind, bind_assoc, stN_eq, List.set_cons_zero, List.set_cons_succ, getV_0, getV_s, it_lst]
      have hc := cnt_step hi hj hne
      have tC : ∀ (s : Int) (p : Nat × Nat) (h1 h2 : AH) (v : D) (kvs1 : List (List Key × D)), run P (k + f + 2) ("after", none) [prD (i, j), .int s] = pure (prD p) → WaysAt A B w d h1 kvs1 → run P (k + f + 2) ("Ways", some "count") [.ref w, prD p] h1 = .ok v h2 → ∀ q,
          turnC (stN 3) (fun ρ => pure true) (fun ρ => getV ρ 0 >>= fun x => methM ms (run P (k + f + 2)) "count" x (getV ρ 1 >>= fun y => getV ρ 3 >>= fun z => run P (k + f + 2) ("after", none) [y, z] >>= fun x => pure [x])) (wipeE [some (.ref w), some (prD (i, j)), q, none] [3]) (.int s) h1 = .ok (some v) h2 := fun s p h1 h2 v kvs1 e W1 ec q => by
        rw [turnC_eq]
        simp only [wipeE, stN_eq, pure_bind, bind_assoc, List.set_cons_zero, List.set_cons_succ, getV_0, getV_s, e, if_true]
        have em := (meth_at (o := run P (k + f + 2)) (args := pure [prD p]) (l := [prD p]) W1.hw V.mc rfl rfl).trans ec
        rw [bind_ok em]
        rfl
      have fin : ∀ (kvs1 : List (List Key × D)) (x : List D) (v : Int), WaysAt A B w d (h.set d (.dct false kvs1)) kvs1 → b_sum [.lst x] = pure (.int v) → v = cnt A B i j →
          ∃ kvs', (b_sum [.lst x] >>= fun x => fldM fl (.ref w) "known" >>= fun y => storeM y (prD (i, j)) x >>= fun _ => fldM fl (.ref w) "known" >>= fun x => idxM x (prD (i, j))) (h.set d (.dct false kvs1)) = .ok (.int (cnt A B i j)) (h.set d (.dct false kvs')) ∧ WaysAt A B w d (h.set d (.dct false kvs')) kvs' := fun kvs1 x v W1 es ev => by
        subst ev
        obtain ⟨W2, g2⟩ := W1.put hi hj
        refine ⟨putK kvs1 (kyP (i, j)) (.int (cnt A B i j)), ?_, by rw [List.set_set] at W2; exact W2⟩
        rw [es, pure_bind, bind_ok (fld_at W1.hw V.fk rfl), bind_ok (store_dct W1.hd (W1.small ha hb)), bind_ok (fld_at W2.hw V.fk rfl), idx_dct W2.hd g2, List.set_set]
      have hs : h.set d (.dct false kvs) = h := by
        obtain ⟨h1, h2⟩ := List.getElem?_eq_some_iff.mp W.hd
        rw [← h2]
        exact List.set_getElem_self h1
      cases m0 : may0 A i j with
      | false =>
        cases m1 : may0 B j i with
        | false =>
          simp only [m0, m1, Bool.false_eq_true, if_false] at hc
          simp only [Bool.false_eq_true, if_false, List.append_nil, List.nil_append, comp_0, nox_pure, pure_bind]
          have q := fin kvs [] 0 (by rw [hs]; exact W) sum_0 hc.symm
          rw [hs] at q
          exact q
        | true =>
          have l1 : j < B.length := by unfold may0 at m1; simp at m1; exact m1.1
          obtain ⟨kvs1, e1, W1⟩ := ih i (j + 1) (by omega) hi l1 w d h kvs W
          simp only [m0, m1, Bool.false_eq_true, if_false, if_true] at hc
          simp only [Bool.false_eq_true, if_false, if_true, List.append_nil, List.nil_append]
          rw [bind_ok (nox_app (a := [.int (cnt A B i (j + 1))]) (h' := h.set d (.dct false kvs1)) ?e)]
          case e =>
            rw [comp_1, bind_ok (tC 1 (i, j + 1) h _ _ kvs (after1 V.after (k := k + f + 1)) W e1 _)]
            rfl
          exact fin kvs1 _ _ W1 sum_1 (by omega)
      | true =>
        have l0 : i < A.length := by unfold may0 at m0; simp at m0; exact m0.1
        obtain ⟨kvs0, e0, W0⟩ := ih (i + 1) j (by omega) l0 hj w d h kvs W
        cases m1 : may0 B j i with
        | false =>
          simp only [m0, m1, Bool.false_eq_true, if_false, if_true] at hc
          simp only [Bool.false_eq_true, if_false, if_true, List.append_nil, List.nil_append]
          rw [bind_ok (nox_app (a := [.int (cnt A B (i + 1) j)]) (h' := h.set d (.dct false kvs0)) ?e)]
          case e =>
            rw [comp_1, bind_ok (tC 0 (i + 1, j) h _ _ kvs (after0 V.after (k := k + f + 1)) W e0 _)]
            rfl
          exact fin kvs0 _ _ W0 sum_1 (by omega)
        | true =>
          have l1 : j < B.length := by unfold may0 at m1; simp at m1; exact m1.1
          obtain ⟨kvs1, e1, W1⟩ := ih i (j + 1) (by omega) hi l1 w d _ kvs0 W0
          rw [List.set_set] at e1 W1
          simp only [m0, m1, if_true] at hc
          simp only [if_true, List.cons_append, List.nil_append]
          rw [bind_ok (nox_app (a := [.int (cnt A B (i + 1) j), .int (cnt A B i (j + 1))]) (h' := h.set d (.dct false kvs1)) ?e)]
          case e =>
            rw [comp_2, bind_ok (tC 0 (i + 1, j) h _ _ kvs (after0 V.after (k := k + f + 1)) W e0 _), bind_ok (tC 1 (i, j + 1) _ _ _ kvs0 (after1 V.after (k := k + f + 1)) W0 e1 _)]
            rfl
          exact fin kvs1 _ _ W1 sum_2 (by omega)
end
end Cr
set_option Elab.async false
set_option linter.all false
set_option maxRecDepth 100000
set_option maxHeartbeats 1000000
/-! Ways.at, count_of, first_order. -/
namespace Cr
open PySem
section
variable {A B : List Int}
theorem bund_at {m : Int} (h : bundB A m = true) {i : Nat} (hi : i < A.length) : 0 ≤ A.getD i 0 ∧ A.getD i 0 ≤ m := by
  unfold bundB at h
  simp only [Bool.and_eq_true, List.all_eq_true, decide_eq_true_eq] at h
  have q := h.1.2 (A.getD i 0) (by rw [List.getD_eq_getElem?_getD, List.getElem?_eq_getElem hi]; exact List.getElem_mem hi)
  exact q
theorem IsMail.at_a (h : IsMail A B) {i : Nat} (hi : i < A.length) : 0 ≤ A.getD i 0 ∧ A.getD i 0 ≤ B.length := bund_at h.a hi
theorem IsMail.at_b (h : IsMail A B) {i : Nat} (hi : i < B.length) : 0 ≤ B.getD i 0 ∧ B.getD i 0 ≤ A.length := bund_at h.b hi
theorem may_one (hm : IsMail A B) (hb : barr A B = []) {i j : Nat} (hi : i ≤ A.length) (hj : j ≤ B.length) (hne : (i, j) ≠ (A.length, B.length)) : may0 A i j = true ∨ may0 B j i = true := by
  unfold may0
  simp only [Bool.and_eq_true, decide_eq_true_eq]
  rcases Nat.lt_or_ge i A.length with h1 | h1
  · rcases Nat.lt_or_ge j B.length with h2 | h2
    · by_cases h3 : A.getD i 0 ≤ (j : Int)
      · exact .inl ⟨h1, h3⟩
      · by_cases h4 : B.getD j 0 ≤ (i : Int)
        · exact .inr ⟨h2, h4⟩
        · have : (i, j) ∈ barr A B := by
            unfold barr
            refine List.mem_filter.mpr ⟨mem_prs.mpr ⟨h1, h2⟩, ?_⟩
            unfold barB
            simp only [Bool.and_eq_true, decide_eq_true_eq]
            constructor <;> omega
          rw [hb] at this
          cases this
    · have := hm.at_a h1
      exact .inl ⟨h1, by omega⟩
  · rcases Nat.lt_or_ge j B.length with h2 | h2
    · have := hm.at_b h2
      exact .inr ⟨h2, by omega⟩
    · exact absurd (by rw [show i = A.length by omega, show j = B.length by omega]) hne
theorem cnt_pos (hm : IsMail A B) (hb : barr A B = []) : ∀ (f i j : Nat), (A.length - i) + (B.length - j) = f → i ≤ A.length → j ≤ B.length → 0 < cnt A B i j := by
  intro f
  induction f with
  | zero =>
    intro i j hf hi hj
    rw [show i = A.length by omega, show j = B.length by omega, cnt_end]
    decide
  | succ f ih =>
    intro i j hf hi hj
    have hne : (i, j) ≠ (A.length, B.length) := fun z => by
      cases z
      omega
    rw [cnt_step hi hj hne]
    have p0 : may0 A i j = true → 0 < cnt A B (i + 1) j := fun h => by
      unfold may0 at h
      simp at h
      exact ih _ _ (by omega) (by omega) hj
    have p1 : may0 B j i = true → 0 < cnt A B i (j + 1) := fun h => by
      unfold may0 at h
      simp at h
      exact ih _ _ (by omega) hi (by omega)
    have n0 : 0 ≤ (if may0 A i j then cnt A B (i + 1) j else 0) := by
      split
      · rename_i h; exact Int.le_of_lt (p0 h)
      · exact Int.le_refl _
    have n1 : 0 ≤ (if may0 B j i then cnt A B i (j + 1) else 0) := by
      split
      · rename_i h; exact Int.le_of_lt (p1 h)
      · exact Int.le_refl _
    rcases may_one hm hb hi hj hne with h | h
    · have q := p0 h
      rw [if_pos h] at n0 ⊢
      omega
    · have q := p1 h
      rw [if_pos h] at n1 ⊢
      omega
/-- the way that goes by side 0 where it may -/
def path (A B : List Int) : Nat → Nat → Nat → List Nat
  | 0, _, _ => []
  | f + 1, i, j => if may0 A i j then 0 :: path A B f (i + 1) j else 1 :: path A B f i (j + 1)
end
/-! ### the object is made -/
section
variable {P : Prog} {fl ms : List (Str × Str)} {k : Nat} {A B : List Int} (V : HWays P fl ms)
include V
theorem make_ways {h : AH} : makeM (run P (k + 1)) "Ways" [mailD A B] h = .ok (.ref h.length) (h ++ [.ins "Ways" [("held", mailD A B), ("known", .ref (h.length + 1))], .dct false []]) := by
  have e0 : makeM (run P (k + 1)) "Ways" [mailD A B] h = (run P (k + 1) ("Ways", some "__init__") [.ref h.length, mailD A B] >>= fun r => match r with | .non => pure (.ref h.length) | _ => M.stuck) (h ++ [.ins "Ways" []]) := rfl
  rw [e0, V.init k _ rfl, bodyM_F]
  unfold S_Ways_init
  simp only [List.map_cons, List.map_nil, List.replicate, List.cons_append, List.nil_append, List.append_nil, bF_expr, bF_nil, getV_0, getV_s, pure_bind, bind_assoc]
  have s1 : setFldM fl (.ref h.length) "held" (mailD A B) (h ++ [.ins "Ways" []]) = .ok () (h ++ [.ins "Ways" [("held", mailD A B)]]) := by
    show (getC h.length >>= _) _ = _
    rw [bind_ok (getC_ok (c := .ins "Ways" []) (by simp))]
    show (if 0 < 100 ∧ (("Ways" : Str), ("held" : Str)) ∈ fl then setC h.length (.ins "Ways" [("held", mailD A B)]) else M.stuck : M Unit) _ = _
    rw [if_pos ⟨by decide, V.fh⟩]
    show Cr.R.ok () ((h ++ [Cell.ins "Ways" []]).set h.length _) = _
    simp
  have s2 : setFldM fl (.ref h.length) "known" (.ref (h.length + 1)) (h ++ [.ins "Ways" [("held", mailD A B)], .dct false []]) = .ok () (h ++ [.ins "Ways" [("held", mailD A B), ("known", .ref (h.length + 1))], .dct false []]) := by
    show (getC h.length >>= _) _ = _
    rw [bind_ok (getC_ok (c := .ins "Ways" [("held", mailD A B)]) (by simp))]
    show (if 1 < 100 ∧ (("Ways" : Str), ("known" : Str)) ∈ fl then setC h.length (.ins "Ways" (putF "known" (.ref (h.length + 1)) [("held", mailD A B)])) else M.stuck : M Unit) _ = _
    rw [if_pos ⟨by decide, V.fk⟩]
    show Cr.R.ok () ((h ++ [Cell.ins "Ways" [("held", mailD A B)], Cell.dct false []]).set h.length _) = _
    simp
    rfl
  have s3 : alloc (.dct false []) (h ++ [.ins "Ways" [("held", mailD A B)]]) = .ok (.ref (h.length + 1)) (h ++ [.ins "Ways" [("held", mailD A B)], .dct false []]) := by
    show Cr.R.ok (D.ref (h ++ [Cell.ins "Ways" [("held", mailD A B)]]).length) ((h ++ [Cell.ins "Ways" [("held", mailD A B)]]) ++ [Cell.dct false []]) = _
    simp
  rw [bind_ok s1, bind_ok s3, bind_ok s2]
  rfl
omit V in
theorem ways_new {h : AH} : WaysAt A B h.length (h.length + 1) (h ++ [.ins "Ways" [("held", mailD A B), ("known", .ref (h.length + 1))], .dct false []]) [] :=
  ⟨by simp, by simp, fun p v e => (by cases e), List.nodup_nil, fun q hq => (by cases hq)⟩
theorem count_16 (ha : A.length ≤ 7) (hb : B.length ≤ 7) {i j w d : Nat} {h : AH} {kvs : List (List Key × D)} (hi : i ≤ A.length) (hj : j ≤ B.length) (W : WaysAt A B w d h kvs) :
    ∃ kvs', run P (k + 16) ("Ways", some "count") [.ref w, prD (i, j)] h = .ok (.int (cnt A B i j)) (h.set d (.dct false kvs')) ∧ WaysAt A B w d (h.set d (.dct false kvs')) kvs' := by
  have e : k + 16 = (k + (14 - ((A.length - i) + (B.length - j)))) + ((A.length - i) + (B.length - j)) + 2 := by omega
  rw [e]
  exact count_spec V ha hb _ i j rfl hi hj w d h kvs W
theorem count_of_eq (hC : P.has ("count_of", none) 1 0 (S_count_of fl ms)) (ha : A.length ≤ 7) (hb : B.length ≤ 7) {h : AH} : ∃ x, run P (k + 17) ("count_of", none) [mailD A B] h = .ok (.int (cnt A B 0 0)) (h ++ x) := by
  show ∃ x, run P ((k + 16) + 1) _ _ h = _
  rw [hC (k + 16) _ rfl, bodyM_F]
  unfold S_count_of
  simp only [List.map_cons, List.map_nil, List.replicate, List.cons_append, List.nil_append, List.append_nil, bF_ret, getV_0, getV_s, pure_bind, bind_assoc, tupM_2]
  rw [bind_ok (make_ways V (k := k + 15))]
  obtain ⟨kvs', e, W⟩ := count_16 V (k := k) ha hb (Nat.zero_le _) (Nat.zero_le _) (ways_new (A := A) (B := B) (h := h))
  refine ⟨[.ins "Ways" [("held", mailD A B), ("known", .ref (h.length + 1))], .dct false kvs'], ?_⟩
  rw [meth_at (l := [D.tup [.int 0, .int 0]]) (ways_new (A := A) (B := B) (h := h)).hw V.mc rfl rfl]
  refine e.trans ?_
  congr 1
  simp
end
/-! ### a while -/
theorem bF_while {T : Env → M Bool} {Bd R : Env → AH → RS} {n : Nat} {Q : Cr.R D → Prop} (I : Nat → Env → AH → Prop) (hs : ∀ f ρ h, I (f + 1) ρ h → ∃ h1 ρ' h', T ρ h = .ok true h1 ∧ Bd ρ h1 = .next ρ' h' ∧ I f ρ' h')
    (h0 : ∀ ρ h, I 0 ρ h → ∃ h1, T ρ h = .ok false h1 ∧ Q (bodyF R ρ h1)) : ∀ {f : Nat} {ρ : Env} {h : AH}, I f ρ h → f < n → Q (bodyF (seqS (fun ρ => whileM T Bd n ρ) R) ρ h) := by
  have key : ∀ (n f : Nat) (ρ : Env) (h : AH), I f ρ h → f < n → ∃ ρ' h1, whileM T Bd n ρ h = .next ρ' h1 ∧ Q (bodyF R ρ' h1) := by
    intro n
    induction n with
    | zero => intro f ρ h _ hf; omega
    | succ n ih =>
      intro f ρ h hi hf
      cases f with
      | zero =>
        obtain ⟨h1, e, q⟩ := h0 ρ h hi
        refine ⟨ρ, h1, ?_, q⟩
        unfold whileM
        rw [e]
      | succ f =>
        obtain ⟨h1, ρ', h', e1, e2, i'⟩ := hs f ρ h hi
        obtain ⟨ρ2, h2, e3, q⟩ := ih f ρ' h' i' (by omega)
        refine ⟨ρ2, h2, ?_, q⟩
        unfold whileM
        rw [e1]
        dsimp only
        rw [e2]
        exact e3
  intro f ρ h hi hf
  obtain ⟨ρ', h1, e, q⟩ := key n f ρ h hi hf
  have z : bodyF (seqS (fun ρ => whileM T Bd n ρ) R) ρ h = bodyF R ρ' h1 := by
    unfold bodyF seqS
    dsimp only
    rw [e]
  rw [z]
  exact q
end Cr
set_option Elab.async false
set_option linter.all false
set_option maxRecDepth 100000
set_option maxHeartbeats 1000000
/-! Ways.at(0), first_order. -/
namespace Cr
open PySem
theorem sq_asg {A : Env → M Env} {R : Env → AH → RS} {ρ ρ' : Env} {h h' : AH} (e : A ρ h = .ok ρ' h') : seqS (fun ρ => liftE (A ρ) ρ fun ρ' h => .next ρ' h) R ρ h = R ρ' h' := by
  unfold seqS liftE
  dsimp only
  rw [e]
theorem sq_expr {β : Type} {A : Env → M β} {R : Env → AH → RS} {ρ : Env} {a : β} {h h' : AH} (e : A ρ h = .ok a h') : seqS (fun ρ => liftE (A ρ) ρ fun _ h => .next ρ h) R ρ h = R ρ h' := by
  unfold seqS liftE
  dsimp only
  rw [e]
theorem sq_if {T : Env → M Bool} {F G R : Env → AH → RS} {ρ : Env} {b : Bool} {h h' : AH} (e : T ρ h = .ok b h') : seqS (fun ρ => liftE (T ρ) ρ fun c h => if c then F ρ h else G ρ h) R ρ h = seqS (if b then F else G) R ρ h' := by
  unfold seqS liftE
  dsimp only
  rw [e]
  cases b <;> rfl
theorem sq_nil {ρ : Env} {h : AH} : (fun (ρ : Env) (h : AH) => RS.next ρ h) ρ h = .next ρ h := rfl
theorem add_tup {l r : List D} {mk : Bool} (h : l.length + r.length ≤ most) : binM .Add mk (.tup l) (.tup r) = pure (.tup (l ++ r)) := by
  show (if l.length + r.length ≤ most then pure (.tup (l ++ r)) else M.stuck : M D) = _
  rw [if_pos h]
theorem set_self {h : AH} {d : Nat} {c : Cell} (e : h[d]? = some c) : h.set d c = h := by
  obtain ⟨h1, h2⟩ := List.getElem?_eq_some_iff.mp e
  rw [← h2]
  exact List.set_getElem_self h1
section
variable {P : Prog} {fl ms : List (Str × Str)} {k : Nat} {A B : List Int} (V : HWays P fl ms)
include V
abbrev nats (l : List Nat) : List D := l.map fun (n : Nat) => D.int n
theorem at_eq (hA : P.has ("Ways", some "at") 2 4 (S_Ways_at fl ms)) (hm : IsMail A B) (hb : barr A B = []) {w d : Nat} {h : AH} {kvs : List (List Key × D)} (W : WaysAt A B w d h kvs) :
    ∃ kvs', run P (k + 17) ("Ways", some "at") [.ref w, .int 0] h = .ok (.tup (nats (path A B (A.length + B.length) 0 0))) (h.set d (.dct false kvs')) := by
  have la := hm.la
  have lb := hm.lb
  show ∃ kvs', run P ((k + 16) + 1) _ _ h = _
  rw [hA (k + 16) _ rfl, bodyM_F]
  unfold S_Ways_at
  simp only [List.map_cons, List.map_nil, List.replicate, List.cons_append, List.nil_append, bF_asg, getV_0, getV_s, pure_bind, bind_assoc, tupM_0, tupM_2, stT2, List.set_cons_zero, List.set_cons_succ]
  refine bF_while (Q := fun r => ∃ kvs', r = .ok (.tup (nats (path A B (A.length + B.length) 0 0))) (h.set d (.dct false kvs')))
    (fun f ρ h' => ∃ (i j : Nat) (found : List Nat) (q4 q5 : Option D) (kvs' : List (List Key × D)), (A.length - i) + (B.length - j) = f ∧ i ≤ A.length ∧ j ≤ B.length ∧ ρ = [some (.ref w), some (.int 0), some (prD (i, j)), some (.tup (nats found)), q4, q5] ∧ h' = h.set d (.dct false kvs') ∧ WaysAt A B w d h' kvs' ∧
      found ++ path A B f i j = path A B (A.length + B.length) 0 0 ∧ found.length + f ≤ 14) ?_ ?_ (f := A.length + B.length) ⟨0, 0, [], none, none, kvs, by omega, Nat.zero_le _, Nat.zero_le _, rfl, (set_self W.hd).symm, W, rfl, by simp; omega⟩ (by omega)
  · rintro f ρ h' ⟨i, j, found, q4, q5, kvs', hf, hi, hj, rfl, rfl, W', hp, hl⟩
    have hne : (i, j) ≠ (A.length, B.length) := fun z => by
      cases z
      omega
    unfold L1_Ways_at
    simp only [getV_0, getV_s, pure_bind, bind_assoc]
    refine ⟨h.set d (.dct false kvs'), ?_⟩
    rw [bind_ok (fld_at W'.hw V.fh rfl), end_of_eq V.end_of (k := k + 15), pure_bind, ne_pr1, decide_eq_false hne]
    cases m0 : may0 A i j with
    | true =>
      have l0 : i < A.length := by unfold may0 at m0; simp at m0; exact m0.1
      obtain ⟨kvs2, e2, W2⟩ := count_16 V (k := k) la lb (i := i + 1) (j := j) l0 hj W'
      rw [List.set_set] at e2 W2
      have pos := cnt_pos hm hb _ (i + 1) j rfl l0 hj
      have hpath : path A B (f + 1) i j = 0 :: path A B f (i + 1) j := by
        show (if may0 A i j then _ else _) = _
        rw [if_pos m0]
      refine ⟨_, h.set d (.dct false kvs2), rfl, ?_, i + 1, j, found ++ [0], some (.int (cnt A B (i + 1) j)), some (.int 0), kvs2, by omega, l0, hj, rfl, rfl, W2, by rw [← hp, hpath]; simp, by simp; omega⟩
      rw [sq_asg (ρ' := [some (.ref w), some (.int 0), some (prD (i, j)), some (.tup (nats found)), some (.int (cnt A B (i + 1) j)), q5]) (h' := h.set d (.dct false kvs2)) ?e1]
      case e1 =>
        simp only [getV_0, getV_s, pure_bind, bind_assoc]
        rw [bind_ok (fld_at W'.hw V.fh rfl), may_write0 V.may (k := k + 15), pure_bind, asBool_bl, pure_bind, m0, if_pos rfl]
        rw [bind_ok ((meth_at (o := run P (k + 16)) (l := [prD (i + 1, j)]) W'.hw V.mc rfl (by rw [after0 V.after (k := k + 15)]; rfl)).trans e2)]
        rfl
      rw [sq_asg (ρ' := [some (.ref w), some (.int 0), some (prD (i, j)), some (.tup (nats found)), some (.int (cnt A B (i + 1) j)), some (.int 0)]) (h' := h.set d (.dct false kvs2)) ?e2]
      case e2 => simp [pos]; rfl
      rw [sq_asg (ρ' := [some (.ref w), some (.int 0), some (prD (i, j)), some (.tup (nats found)), some (.int (cnt A B (i + 1) j)), some (.int 0)]) (h' := h.set d (.dct false kvs2)) ?e3]
      case e3 => simp; rfl
      rw [sq_asg (ρ' := [some (.ref w), some (.int 0), some (prD (i + 1, j)), some (.tup (nats (found ++ [0]))), some (.int (cnt A B (i + 1) j)), some (.int 0)]) (h' := h.set d (.dct false kvs2)) ?e4]
      case e4 =>
        have hz : (nats found).length + [D.int 0].length ≤ most := by
          have : most = 1000000 := rfl
          simp
          omega
        simp only [getV_0, getV_s, pure_bind, bind_assoc, after0 V.after (k := k + 15), tupM_1, tupM_2, stT2, add_tup hz]
        simp
        rfl
    | false =>
      have m1 : may0 B j i = true := (may_one hm hb hi hj hne).resolve_left (by rw [m0]; decide)
      have l1 : j < B.length := by unfold may0 at m1; simp at m1; exact m1.1
      have hpath : path A B (f + 1) i j = 1 :: path A B f i (j + 1) := by
        show (if may0 A i j then _ else _) = _
        rw [if_neg (by rw [m0]; decide)]
      refine ⟨_, h.set d (.dct false kvs'), rfl, ?_, i, j + 1, found ++ [1], some (.int 0), some (.int 1), kvs', by omega, hi, l1, rfl, rfl, W', by rw [← hp, hpath]; simp, by simp; omega⟩
      rw [sq_asg (ρ' := [some (.ref w), some (.int 0), some (prD (i, j)), some (.tup (nats found)), some (.int 0), q5]) (h' := h.set d (.dct false kvs')) ?e1]
      case e1 =>
        simp only [getV_0, getV_s, pure_bind, bind_assoc]
        rw [bind_ok (fld_at W'.hw V.fh rfl), may_write0 V.may (k := k + 15), pure_bind, asBool_bl, pure_bind, m0, if_neg (by decide)]
        rfl
      rw [sq_asg (ρ' := [some (.ref w), some (.int 0), some (prD (i, j)), some (.tup (nats found)), some (.int 0), some (.int 1)]) (h' := h.set d (.dct false kvs')) ?e2]
      case e2 => simp; rfl
      rw [sq_asg (ρ' := [some (.ref w), some (.int 0), some (prD (i, j)), some (.tup (nats found)), some (.int 0), some (.int 1)]) (h' := h.set d (.dct false kvs')) ?e3]
      case e3 => simp; rfl
      rw [sq_asg (ρ' := [some (.ref w), some (.int 0), some (prD (i, j + 1)), some (.tup (nats (found ++ [1]))), some (.int 0), some (.int 1)]) (h' := h.set d (.dct false kvs')) ?e4]
      case e4 =>
        have hz : (nats found).length + [D.int 1].length ≤ most := by
          have : most = 1000000 := rfl
          simp
          omega
        simp only [getV_0, getV_s, pure_bind, bind_assoc, after1 V.after (k := k + 15), tupM_1, tupM_2, stT2, add_tup hz]
        simp
        rfl
  · rintro ρ h' ⟨i, j, found, q4, q5, kvs', hf, hi, hj, rfl, rfl, W', hp, hl⟩
    have ei : i = A.length := by omega
    have ej : j = B.length := by omega
    subst ei ej
    simp only [getV_0, getV_s, pure_bind, bind_assoc]
    refine ⟨h.set d (.dct false kvs'), ?_, kvs', ?_⟩
    · rw [bind_ok (fld_at W'.hw V.fh rfl), end_of_eq V.end_of (k := k + 15), pure_bind, ne_pr1]
      simp
      rfl
    · have : found = path A B (A.length + B.length) 0 0 := by
        rw [← hp]
        show found = found ++ []
        simp
      rw [← this]
      simp only [bF_ret, getV_0, getV_s]
      rfl
end
end Cr
set_option Elab.async false
set_option linter.all false
set_option maxRecDepth 100000
set_option maxHeartbeats 1000000
/-! Statements, run at a heap. -/
namespace Cr
open PySem
/-- one thing behind another -/
def andM {α β : Type} (r : Cr.R α) (f : α → M β) : Cr.R β := match r with
  | .ok a h => f a h
  | .exc c h => .exc c h
  | .stuck => .stuck
def andR {α : Type} (r : Cr.R α) (ρ : Env) (f : α → AH → RS) : RS := match r with
  | .ok a h => f a h
  | .exc c h => .exc c ρ h
  | .stuck => .stuck
def andS (r : RS) (f : Env → AH → RS) : RS := match r with
  | .next ρ h => f ρ h
  | x => x
def endR (r : RS) : Cr.R D := match r with
  | .next _ h => .ok .non h
  | .ret d h => .ok d h
  | .exc c _ h => .exc c h
  | _ => .stuck
section
variable {α β : Type} {ρ : Env} {h : AH} {R F G : Env → AH → RS}
theorem bind_at {x : M α} {f : α → M β} : (x >>= f) h = andM (x h) f := rfl
@[simp] theorem pure_at {a : α} : (pure a : M α) h = .ok a h := rfl
@[simp] theorem raise_at {c : Str} : (M.raise c : M α) h = .exc c h := rfl
@[simp] theorem andM_ok {a : α} {f : α → M β} : andM (.ok a h) f = f a h := rfl
@[simp] theorem andM_exc {c : Str} {f : α → M β} : andM (.exc c h) f = .exc c h := rfl
@[simp] theorem andR_ok {a : α} {f : α → AH → RS} : andR (.ok a h) ρ f = f a h := rfl
@[simp] theorem andR_exc {c : Str} {f : α → AH → RS} : andR (.exc c h) ρ f = .exc c ρ h := rfl
@[simp] theorem andS_next : andS (.next ρ h) F = F ρ h := rfl
@[simp] theorem andS_ret {d : D} : andS (.ret d h) F = .ret d h := rfl
@[simp] theorem andS_exc {c : Str} : andS (.exc c ρ h) F = .exc c ρ h := rfl
@[simp] theorem endR_next : endR (.next ρ h) = .ok .non h := rfl
@[simp] theorem endR_ret {d : D} : endR (.ret d h) = .ok d h := rfl
@[simp] theorem endR_exc {c : Str} : endR (.exc c ρ h) = .exc c h := rfl
theorem end_at : bodyF F ρ h = endR (F ρ h) := rfl
theorem told_ok {x : M D} {d : D} {h' : AH} (e : x h = .ok d h') : toldM x h = .ok d h' := by unfold toldM; rw [e]
theorem told_exc {x : M D} {c : Str} {h' : AH} (e : x h = .exc c h') (hc : c ∈ toldN) : toldM x h = .ok (.tup [.str "refused", .str c]) h' := by unfold toldM; rw [e]; exact if_pos hc
/-- what is told of an end -/
def toldR (r : Cr.R D) : Cr.R D := match r with
  | .ok d h => .ok d h
  | .exc c h => if c ∈ toldN then .ok (.tup [.str "refused", .str c]) h else .stuck
  | .stuck => .stuck
theorem told_at {x : M D} : toldM x h = toldR (x h) := rfl
@[simp] theorem toldR_ok {d : D} : toldR (.ok d h) = .ok d h := rfl
theorem toldR_exc {c : Str} (hc : c ∈ toldN) : toldR (.exc c h) = .ok (.tup [.str "refused", .str c]) h := if_pos hc
theorem sx_asg {A : Env → M Env} : seqS (fun ρ => liftE (A ρ) ρ fun ρ h => .next ρ h) R ρ h = andR (A ρ h) ρ R := by
  unfold seqS liftE andR
  dsimp only
  cases A ρ h <;> rfl
theorem sx_expr {A : Env → M β} : seqS (fun ρ => liftE (A ρ) ρ fun _ h => .next ρ h) R ρ h = andR (A ρ h) ρ fun _ h' => R ρ h' := by
  unfold seqS liftE andR
  dsimp only
  cases A ρ h <;> rfl
theorem sx_if {T : Env → M Bool} : seqS (fun ρ => liftE (T ρ) ρ fun c h => if c then F ρ h else G ρ h) R ρ h = andR (T ρ h) ρ fun c h' => if c then seqS F R ρ h' else seqS G R ρ h' := by
  unfold seqS liftE andR
  dsimp only
  cases T ρ h with
  | ok b h' => cases b <;> rfl
  | _ => rfl
theorem sx_ret {A : Env → M D} : seqS (fun ρ => liftE (A ρ) ρ fun d h => .ret d h) R ρ h = andR (A ρ h) ρ fun d h' => .ret d h' := by
  unfold seqS liftE andR
  dsimp only
  cases A ρ h <;> rfl
theorem sx_retN : seqS (fun ρ h => .ret .non h) R ρ h = .ret .non h := rfl
theorem sx_raise {c : Str} : seqS (fun ρ h => .exc c ρ h) R ρ h = .exc c ρ h := rfl
theorem sx_for {I0 : Env → M ItK} {B : D → Env → AH → RS} : seqS (fun ρ => liftE (I0 ρ) ρ fun it h => loopOf B it ρ h) R ρ h = andR (I0 ρ h) ρ fun it h' => andS (loopOf B it ρ h') R := by
  unfold seqS liftE andR andS
  dsimp only
  cases I0 ρ h with
  | ok it h' => first | rfl | (dsimp only; cases loopOf B it ρ h' <;> rfl)
  | _ => rfl
theorem sx_while {T : Env → M Bool} {B : Env → AH → RS} {n : Nat} : seqS (fun ρ => whileM T B n ρ) R ρ h = andS (whileM T B n ρ h) R := rfl
theorem sx_next : seqS (fun ρ h => .next ρ h) R ρ h = R ρ h := rfl
theorem sx_seq : seqS (seqS F G) R ρ h = seqS F (seqS G R) ρ h := by
  unfold seqS
  cases F ρ h <;> rfl
theorem sx_turnN {i : Nat} {B : Env → AH → RS} {d : D} : turnS (stN i) B d ρ h = B (ρ.set i (some d)) h := rfl
theorem sx_turn {G : D → Env → M Env} {B : Env → AH → RS} {d : D} : turnS G B d ρ h = andR (G d ρ h) ρ B := by
  unfold turnS liftE andR
  cases G d ρ h <;> rfl
theorem loop_fix {B : D → Env → AH → RS} {l : List D} : loopOf B (.fix l) ρ h = forFix B l ρ h := rfl
end
/-- a loop that goes through -/
theorem for_inv {B : D → Env → AH → RS} {l : List D} (I : Nat → Env → AH → Prop) {ρ : Env} {h : AH} (h0 : I 0 ρ h) (hs : ∀ i d ρ h, l[i]? = some d → I i ρ h → ∃ ρ' h', B d ρ h = .next ρ' h' ∧ I (i + 1) ρ' h') : ∃ ρ' h', forFix B l ρ h = .next ρ' h' ∧ I l.length ρ' h' := forFix_inv hs h0
/-- .. of mapped things -/
theorem for_map {β : Type} {B : D → Env → AH → RS} {l : List β} {f : β → D} (I : Env → AH → Prop) {ρ : Env} {h : AH} (h0 : I ρ h) (hs : ∀ b ∈ l, ∀ ρ h, I ρ h → ∃ ρ' h', B (f b) ρ h = .next ρ' h' ∧ I ρ' h') : ∃ ρ' h', forFix B (l.map f) ρ h = .next ρ' h' ∧ I ρ' h' := by
  obtain ⟨ρ', h', e, q⟩ := for_inv (l := l.map f) (fun _ ρ h => I ρ h) h0 (fun i d ρ h hd hi => by
    obtain ⟨b, hb, rfl⟩ := List.mem_map.mp (List.mem_of_getElem? hd)
    exact hs b hb ρ h hi)
  exact ⟨ρ', h', e, q⟩
theorem for_all {B : D → Env → AH → RS} {l : List D} (I : Env → AH → Prop) {ρ : Env} {h : AH} (h0 : I ρ h) (hs : ∀ d ∈ l, ∀ ρ h, I ρ h → ∃ ρ' h', B d ρ h = .next ρ' h' ∧ I ρ' h') : ∃ ρ' h', forFix B l ρ h = .next ρ' h' ∧ I ρ' h' := by
  have := for_map (l := l) (f := id) I h0 hs
  rw [List.map_id] at this
  exact this
end Cr
set_option Elab.async false
set_option linter.all false
set_option maxRecDepth 100000
set_option maxHeartbeats 1000000
/-! All orders; the one with a number. -/
namespace Cr
open PySem
def ords (A B : List Int) : Nat → Nat → Nat → List (List Nat)
  | 0, _, _ => [[]]
  | f + 1, i, j => (if may0 A i j then (ords A B f (i + 1) j).map (0 :: ·) else []) ++ if may0 B j i then (ords A B f i (j + 1)).map (1 :: ·) else []
/-- all ways on from a standing -/
def ordsAt (A B : List Int) (i j : Nat) : List (List Nat) := ords A B ((A.length - i) + (B.length - j)) i j
theorem ords_len {A B : List Int} : ∀ (f i j : Nat), ((ords A B f i j).length : Int) = waysF A B f i j
  | 0, _, _ => rfl
  | f + 1, i, j => by
    unfold ords waysF
    rw [List.length_append, Int.natCast_add]
    congr 1
    · split
      · rw [List.length_map]; exact ords_len f (i + 1) j
      · rfl
    · split
      · rw [List.length_map]; exact ords_len f i (j + 1)
      · rfl
theorem ords_cnt {A B : List Int} {i j : Nat} : ((ordsAt A B i j).length : Int) = cnt A B i j := ords_len _ i j
theorem ordsAt_end {A B : List Int} : ordsAt A B A.length B.length = [[]] := by
  unfold ordsAt
  rw [Nat.sub_self, Nat.sub_self]
  rfl
theorem may_lt {A : List Int} {i j : Nat} (h : may0 A i j = true) : i < A.length ∧ A.getD i 0 ≤ (j : Int) := by
  unfold may0 at h
  simpa using h
theorem ordsAt_step {A B : List Int} {i j : Nat} (hi : i ≤ A.length) (hj : j ≤ B.length) (hne : (i, j) ≠ (A.length, B.length)) :
    ordsAt A B i j = (if may0 A i j then (ordsAt A B (i + 1) j).map (0 :: ·) else []) ++ if may0 B j i then (ordsAt A B i (j + 1)).map (1 :: ·) else [] := by
  have pos : 0 < (A.length - i) + (B.length - j) := by
    rcases Nat.lt_or_ge i A.length with h | h
    · omega
    · rcases Nat.lt_or_ge j B.length with h' | h'
      · omega
      · exact absurd (by rw [show i = A.length by omega, show j = B.length by omega]) hne
  obtain ⟨f, hf⟩ := Nat.exists_eq_succ_of_ne_zero (Nat.ne_of_gt pos)
  unfold ordsAt
  rw [hf]
  show (if may0 A i j then (ords A B f (i + 1) j).map (0 :: ·) else []) ++ (if may0 B j i then (ords A B f i (j + 1)).map (1 :: ·) else []) = _
  congr 1
  · split
    · rename_i h
      rw [show (A.length - (i + 1)) + (B.length - j) = f by have := may_lt h; omega]
    · rfl
  · split
    · rename_i h
      rw [show (A.length - i) + (B.length - (j + 1)) = f by have := may_lt h; omega]
    · rfl
/-- a way on from a standing -/
def Ord (A B : List Int) : Nat → Nat → List Nat → Prop
  | i, j, [] => i = A.length ∧ j = B.length
  | i, j, s :: r => (s = 0 ∧ may0 A i j = true ∧ Ord A B (i + 1) j r) ∨ (s = 1 ∧ may0 B j i = true ∧ Ord A B i (j + 1) r)
theorem ord_len {A B : List Int} : ∀ {o : List Nat} {i j : Nat}, Ord A B i j o → i ≤ A.length ∧ j ≤ B.length ∧ o.length = (A.length - i) + (B.length - j)
  | [], i, j, ⟨h1, h2⟩ => by subst h1 h2; simp
  | s :: r, i, j, h => by
    rcases h with ⟨_, h1, h2⟩ | ⟨_, h1, h2⟩
    · have := may_lt h1
      have := ord_len h2
      simp
      omega
    · have := may_lt h1
      have := ord_len h2
      simp
      omega
theorem mem_ords {A B : List Int} : ∀ {f i j : Nat} {o : List Nat}, (A.length - i) + (B.length - j) = f → i ≤ A.length → j ≤ B.length → (o ∈ ords A B f i j ↔ Ord A B i j o)
  | 0, i, j, o, hf, hi, hj => by
    have e1 : i = A.length := by omega
    have e2 : j = B.length := by omega
    subst e1 e2
    constructor
    · intro h
      have : o = [] := by simpa [ords] using h
      subst this
      exact ⟨rfl, rfl⟩
    · intro h
      have := (ord_len h).2.2
      have : o = [] := by
        cases o with
        | nil => rfl
        | cons a r => simp at this
      subst this
      simp [ords]
  | f + 1, i, j, o, hf, hi, hj => by
    unfold ords
    rw [List.mem_append]
    constructor
    · rintro (h | h)
      · split at h
        · rename_i m
          obtain ⟨r, hr, rfl⟩ := List.mem_map.mp h
          have := may_lt m
          exact .inl ⟨rfl, m, (mem_ords (by omega) (by omega) hj).mp hr⟩
        · cases h
      · split at h
        · rename_i m
          obtain ⟨r, hr, rfl⟩ := List.mem_map.mp h
          have := may_lt m
          exact .inr ⟨rfl, m, (mem_ords (by omega) hi (by omega)).mp hr⟩
        · cases h
    · intro h
      cases o with
      | nil =>
        obtain ⟨h1, h2⟩ := h
        omega
      | cons s r =>
        rcases h with ⟨rfl, m, h⟩ | ⟨rfl, m, h⟩
        · have := may_lt m
          refine .inl ?_
          rw [if_pos m]
          exact List.mem_map.mpr ⟨r, (mem_ords (by omega) (by omega) hj).mpr h, rfl⟩
        · have := may_lt m
          refine .inr ?_
          rw [if_pos m]
          exact List.mem_map.mpr ⟨r, (mem_ords (by omega) hi (by omega)).mpr h, rfl⟩
theorem mem_ordsAt {A B : List Int} {i j : Nat} {o : List Nat} (hi : i ≤ A.length) (hj : j ≤ B.length) : o ∈ ordsAt A B i j ↔ Ord A B i j o := mem_ords rfl hi hj
section
variable {P : Prog} {fl ms : List (Str × Str)} {k : Nat} {A B : List Int}
variable (V : HWays P fl ms)
include V
theorem at_ord (hA : P.has ("Ways", some "at") 2 4 (S_Ways_at fl ms)) (la : A.length ≤ 7) (lb : B.length ≤ 7) {w d : Nat} {h : AH} {kvs : List (List Key × D)} (W : WaysAt A B w d h kvs) {n : Nat} {o : List Nat} (hn : (ordsAt A B 0 0)[n]? = some o) :
    ∃ kvs', run P (k + 17) ("Ways", some "at") [.ref w, .int n] h = .ok (.tup (nats o)) (h.set d (.dct false kvs')) := by
  show ∃ kvs', run P ((k + 16) + 1) _ _ h = _
  rw [hA (k + 16) _ rfl, bodyM_F]
  unfold S_Ways_at
  simp only [List.map_cons, List.map_nil, List.replicate, List.cons_append, List.nil_append, bF_asg, getV_0, getV_s, pure_bind, bind_assoc, tupM_0, tupM_2, stT2, List.set_cons_zero, List.set_cons_succ]
  refine bF_while (Q := fun r => ∃ kvs', r = .ok (.tup (nats o)) (h.set d (.dct false kvs')))
    (fun f ρ h' => ∃ (i j m : Nat) (found o' : List Nat) (q4 q5 : Option D) (kvs' : List (List Key × D)), (A.length - i) + (B.length - j) = f ∧ i ≤ A.length ∧ j ≤ B.length ∧ ρ = [some (.ref w), some (.int m), some (prD (i, j)), some (.tup (nats found)), q4, q5] ∧ h' = h.set d (.dct false kvs') ∧ WaysAt A B w d h' kvs' ∧
      (ordsAt A B i j)[m]? = some o' ∧ found ++ o' = o ∧ found.length + f ≤ 14) ?_ ?_ (f := A.length + B.length) ⟨0, 0, n, [], o, none, none, kvs, by omega, Nat.zero_le _, Nat.zero_le _, rfl, (set_self W.hd).symm, W, hn, rfl, by simp; omega⟩ (by omega)
  · rintro f ρ h' ⟨i, j, m, found, o', q4, q5, kvs', hf, hi, hj, rfl, rfl, W', hm, ho, hl⟩
    have hne : (i, j) ≠ (A.length, B.length) := fun z => by
      cases z
      omega
    rw [ordsAt_step hi hj hne] at hm
    have ad0 : binM .Add false (.tup (nats found)) (.tup [.int 0]) = pure (.tup (nats (found ++ [0]))) := by
      rw [add_tup (by have : most = 1000000 := rfl; simp; omega)]
      simp
    have ad1 : binM .Add false (.tup (nats found)) (.tup [.int 1]) = pure (.tup (nats (found ++ [1]))) := by
      rw [add_tup (by have : most = 1000000 := rfl; simp; omega)]
      simp
    have fH : fldM fl (.ref w) "held" (h.set d (.dct false kvs')) = .ok (mailD A B) (h.set d (.dct false kvs')) := fld_at W'.hw V.fh rfl
    refine ⟨h.set d (.dct false kvs'), ?_⟩
    unfold L1_Ways_at
    have d10 : decide ((0 : Int) = 1) = false := rfl
    have d11 : decide ((1 : Int) = 1) = true := rfl
    cases m0 : may0 A i j with
    | true =>
      have l0 := (may_lt m0).1
      obtain ⟨kvs2, e2, W2⟩ := count_16 V (k := k) la lb (i := i + 1) (j := j) l0 hj W'
      rw [List.set_set] at e2 W2
      have e3 := (meth_at (o := run P (k + 16)) (args := pure [prD (i + 1, j)]) (l := [prD (i + 1, j)]) W'.hw V.mc rfl rfl).trans e2
      rw [← ords_cnt] at e3
      rw [m0, if_pos rfl] at hm
      by_cases hlt : m < (ordsAt A B (i + 1) j).length
      · rw [List.getElem?_append_left (by simpa using hlt), List.getElem?_map] at hm
        obtain ⟨o2, ho2, rfl⟩ := Option.map_eq_some_iff.mp hm
        refine ⟨[some (.ref w), some (.int m), some (prD (i + 1, j)), some (.tup (nats (found ++ [0]))), some (.int (ordsAt A B (i + 1) j).length), some (.int 0)], h.set d (.dct false kvs2), ?_, ?_, i + 1, j, m, found ++ [0], o2, _, _, kvs2, by omega, l0, hj, rfl, rfl, W2, ho2, by simpa using ho, by simp; omega⟩
        · simp only [sx_asg, sx_expr, sx_if, sx_ret, sx_retN, sx_raise, sx_for, sx_while, sx_next, sx_seq, sx_turnN, sx_turn, loop_fix, bind_at, pure_at, raise_at, andM_ok, andM_exc, andR_ok, andR_exc, andS_next, andS_ret, andS_exc, endR_next, endR_ret, endR_exc, end_at, toldR_ok, told_at, pure_bind, bind_assoc, getV_0, getV_s, stN_eq, stT2, stT3, stT_pr, List.set_cons_zero, List.set_cons_succ, List.map_cons, List.map_nil, List.replicate, List.cons_append, List.nil_append, List.append_nil, tupM_0, tupM_1, tupM_2, tupM_3, dispM_0, newL_f, asBool_bl, part_int, neg_int, cmp_lt, cmp_le, cmp_gt, cmp_ge, cmp_eq, cmp_ne, bin_add, bin_sub, len_tup, len_lst, idx_t0, idx_t1, idx_l0, idx_l1, it_tup, it_lst, ↓reduceIte, Bool.false_eq_true, Bool.not_true, Bool.not_false, decide_true, decide_false, fH, end_of_eq V.end_of (k := k + 15), ne_pr1, decide_eq_false hne]
        · simp only [sx_asg, sx_expr, sx_if, sx_ret, sx_retN, sx_raise, sx_for, sx_while, sx_next, sx_seq, sx_turnN, sx_turn, loop_fix, bind_at, pure_at, raise_at, andM_ok, andM_exc, andR_ok, andR_exc, andS_next, andS_ret, andS_exc, endR_next, endR_ret, endR_exc, end_at, toldR_ok, told_at, pure_bind, bind_assoc, getV_0, getV_s, stN_eq, stT2, stT3, stT_pr, List.set_cons_zero, List.set_cons_succ, List.map_cons, List.map_nil, List.replicate, List.cons_append, List.nil_append, List.append_nil, tupM_0, tupM_1, tupM_2, tupM_3, dispM_0, newL_f, asBool_bl, part_int, neg_int, cmp_lt, cmp_le, cmp_gt, cmp_ge, cmp_eq, cmp_ne, bin_add, bin_sub, len_tup, len_lst, idx_t0, idx_t1, idx_l0, idx_l1, it_tup, it_lst, ↓reduceIte, Bool.false_eq_true, Bool.not_true, Bool.not_false, decide_true, decide_false, fH, may_write0 V.may (k := k + 15), after0 V.after (k := k + 15), m0, e3, decide_eq_true (show (m : Int) < ((ordsAt A B (i + 1) j).length : Int) by omega), d10, ad0]
      · have hlen : (List.map (fun x => 0 :: x) (ordsAt A B (i + 1) j)).length = (ordsAt A B (i + 1) j).length := List.length_map ..
        rw [List.getElem?_append_right (by rw [hlen]; omega), hlen] at hm
        cases m1 : may0 B j i with
        | false => rw [m1] at hm; simp at hm
        | true =>
          rw [m1, if_pos rfl, List.getElem?_map] at hm
          obtain ⟨o2, ho2, rfl⟩ := Option.map_eq_some_iff.mp hm
          have l1 := (may_lt m1).1
          refine ⟨[some (.ref w), some (.int ((m - (ordsAt A B (i + 1) j).length : Nat) : Int)), some (prD (i, j + 1)), some (.tup (nats (found ++ [1]))), some (.int (ordsAt A B (i + 1) j).length), some (.int 1)], h.set d (.dct false kvs2), ?_, ?_, i, j + 1, _, found ++ [1], o2, _, _, kvs2, by omega, hi, l1, rfl, rfl, W2, ho2, by simpa using ho, by simp; omega⟩
          · simp only [sx_asg, sx_expr, sx_if, sx_ret, sx_retN, sx_raise, sx_for, sx_while, sx_next, sx_seq, sx_turnN, sx_turn, loop_fix, bind_at, pure_at, raise_at, andM_ok, andM_exc, andR_ok, andR_exc, andS_next, andS_ret, andS_exc, endR_next, endR_ret, endR_exc, end_at, toldR_ok, told_at, pure_bind, bind_assoc, getV_0, getV_s, stN_eq, stT2, stT3, stT_pr, List.set_cons_zero, List.set_cons_succ, List.map_cons, List.map_nil, List.replicate, List.cons_append, List.nil_append, List.append_nil, tupM_0, tupM_1, tupM_2, tupM_3, dispM_0, newL_f, asBool_bl, part_int, neg_int, cmp_lt, cmp_le, cmp_gt, cmp_ge, cmp_eq, cmp_ne, bin_add, bin_sub, len_tup, len_lst, idx_t0, idx_t1, idx_l0, idx_l1, it_tup, it_lst, ↓reduceIte, Bool.false_eq_true, Bool.not_true, Bool.not_false, decide_true, decide_false, fH, end_of_eq V.end_of (k := k + 15), ne_pr1, decide_eq_false hne]
          · simp only [sx_asg, sx_expr, sx_if, sx_ret, sx_retN, sx_raise, sx_for, sx_while, sx_next, sx_seq, sx_turnN, sx_turn, loop_fix, bind_at, pure_at, raise_at, andM_ok, andM_exc, andR_ok, andR_exc, andS_next, andS_ret, andS_exc, endR_next, endR_ret, endR_exc, end_at, toldR_ok, told_at, pure_bind, bind_assoc, getV_0, getV_s, stN_eq, stT2, stT3, stT_pr, List.set_cons_zero, List.set_cons_succ, List.map_cons, List.map_nil, List.replicate, List.cons_append, List.nil_append, List.append_nil, tupM_0, tupM_1, tupM_2, tupM_3, dispM_0, newL_f, asBool_bl, part_int, neg_int, cmp_lt, cmp_le, cmp_gt, cmp_ge, cmp_eq, cmp_ne, bin_add, bin_sub, len_tup, len_lst, idx_t0, idx_t1, idx_l0, idx_l1, it_tup, it_lst, ↓reduceIte, Bool.false_eq_true, Bool.not_true, Bool.not_false, decide_true, decide_false, fH, may_write0 V.may (k := k + 15), after0 V.after (k := k + 15), after1 V.after (k := k + 15), m0, e3, decide_eq_false (show ¬ (m : Int) < ((ordsAt A B (i + 1) j).length : Int) by omega), d11, ad1, show (m : Int) - ((ordsAt A B (i + 1) j).length : Int) = ((m - (ordsAt A B (i + 1) j).length : Nat) : Int) by omega]
    | false =>
      rw [m0] at hm
      simp only [Bool.false_eq_true, if_false, List.nil_append] at hm
      cases m1 : may0 B j i with
      | false => rw [m1] at hm; simp at hm
      | true =>
        rw [m1, if_pos rfl, List.getElem?_map] at hm
        obtain ⟨o2, ho2, rfl⟩ := Option.map_eq_some_iff.mp hm
        have l1 := (may_lt m1).1
        refine ⟨[some (.ref w), some (.int (m : Int)), some (prD (i, j + 1)), some (.tup (nats (found ++ [1]))), some (.int 0), some (.int 1)], h.set d (.dct false kvs'), ?_, ?_, i, j + 1, m, found ++ [1], o2, _, _, kvs', by omega, hi, l1, rfl, rfl, W', ho2, by simpa using ho, by simp; omega⟩
        · simp only [sx_asg, sx_expr, sx_if, sx_ret, sx_retN, sx_raise, sx_for, sx_while, sx_next, sx_seq, sx_turnN, sx_turn, loop_fix, bind_at, pure_at, raise_at, andM_ok, andM_exc, andR_ok, andR_exc, andS_next, andS_ret, andS_exc, endR_next, endR_ret, endR_exc, end_at, toldR_ok, told_at, pure_bind, bind_assoc, getV_0, getV_s, stN_eq, stT2, stT3, stT_pr, List.set_cons_zero, List.set_cons_succ, List.map_cons, List.map_nil, List.replicate, List.cons_append, List.nil_append, List.append_nil, tupM_0, tupM_1, tupM_2, tupM_3, dispM_0, newL_f, asBool_bl, part_int, neg_int, cmp_lt, cmp_le, cmp_gt, cmp_ge, cmp_eq, cmp_ne, bin_add, bin_sub, len_tup, len_lst, idx_t0, idx_t1, idx_l0, idx_l1, it_tup, it_lst, ↓reduceIte, Bool.false_eq_true, Bool.not_true, Bool.not_false, decide_true, decide_false, fH, end_of_eq V.end_of (k := k + 15), ne_pr1, decide_eq_false hne]
        · simp only [sx_asg, sx_expr, sx_if, sx_ret, sx_retN, sx_raise, sx_for, sx_while, sx_next, sx_seq, sx_turnN, sx_turn, loop_fix, bind_at, pure_at, raise_at, andM_ok, andM_exc, andR_ok, andR_exc, andS_next, andS_ret, andS_exc, endR_next, endR_ret, endR_exc, end_at, toldR_ok, told_at, pure_bind, bind_assoc, getV_0, getV_s, stN_eq, stT2, stT3, stT_pr, List.set_cons_zero, List.set_cons_succ, List.map_cons, List.map_nil, List.replicate, List.cons_append, List.nil_append, List.append_nil, tupM_0, tupM_1, tupM_2, tupM_3, dispM_0, newL_f, asBool_bl, part_int, neg_int, cmp_lt, cmp_le, cmp_gt, cmp_ge, cmp_eq, cmp_ne, bin_add, bin_sub, len_tup, len_lst, idx_t0, idx_t1, idx_l0, idx_l1, it_tup, it_lst, ↓reduceIte, Bool.false_eq_true, Bool.not_true, Bool.not_false, decide_true, decide_false, fH, may_write0 V.may (k := k + 15), after1 V.after (k := k + 15), m0, decide_eq_false (show ¬ (m : Int) < 0 by omega), d11, ad1, Int.sub_zero]
  · rintro ρ h' ⟨i, j, m, found, o', q4, q5, kvs', hf, hi, hj, rfl, rfl, W', hm, ho, hl⟩
    have ei : i = A.length := by omega
    have ej : j = B.length := by omega
    subst ei ej
    have fH : fldM fl (.ref w) "held" (h.set d (.dct false kvs')) = .ok (mailD A B) (h.set d (.dct false kvs')) := fld_at W'.hw V.fh rfl
    refine ⟨h.set d (.dct false kvs'), ?_, kvs', ?_⟩
    · simp only [sx_asg, sx_expr, sx_if, sx_ret, sx_retN, sx_raise, sx_for, sx_while, sx_next, sx_seq, sx_turnN, sx_turn, loop_fix, bind_at, pure_at, raise_at, andM_ok, andM_exc, andR_ok, andR_exc, andS_next, andS_ret, andS_exc, endR_next, endR_ret, endR_exc, end_at, toldR_ok, told_at, pure_bind, bind_assoc, getV_0, getV_s, stN_eq, stT2, stT3, stT_pr, List.set_cons_zero, List.set_cons_succ, List.map_cons, List.map_nil, List.replicate, List.cons_append, List.nil_append, List.append_nil, tupM_0, tupM_1, tupM_2, tupM_3, dispM_0, newL_f, asBool_bl, part_int, neg_int, cmp_lt, cmp_le, cmp_gt, cmp_ge, cmp_eq, cmp_ne, bin_add, bin_sub, len_tup, len_lst, idx_t0, idx_t1, idx_l0, idx_l1, it_tup, it_lst, ↓reduceIte, Bool.false_eq_true, Bool.not_true, Bool.not_false, decide_true, decide_false, fH, end_of_eq V.end_of (k := k + 15), ne_pr1, decide_true]
    · rw [ordsAt_end] at hm
      have : o' = [] := by
        cases m with
        | zero => simpa using hm.symm
        | succ m => simp at hm
      subst this
      rw [← ho]
      simp only [sx_asg, sx_expr, sx_if, sx_ret, sx_retN, sx_raise, sx_for, sx_while, sx_next, sx_seq, sx_turnN, sx_turn, loop_fix, bind_at, pure_at, raise_at, andM_ok, andM_exc, andR_ok, andR_exc, andS_next, andS_ret, andS_exc, endR_next, endR_ret, endR_exc, end_at, toldR_ok, told_at, pure_bind, bind_assoc, getV_0, getV_s, stN_eq, stT2, stT3, stT_pr, List.set_cons_zero, List.set_cons_succ, List.map_cons, List.map_nil, List.replicate, List.cons_append, List.nil_append, List.append_nil, tupM_0, tupM_1, tupM_2, tupM_3, dispM_0, newL_f, asBool_bl, part_int, neg_int, cmp_lt, cmp_le, cmp_gt, cmp_ge, cmp_eq, cmp_ne, bin_add, bin_sub, len_tup, len_lst, idx_t0, idx_t1, idx_l0, idx_l1, it_tup, it_lst, ↓reduceIte, Bool.false_eq_true, Bool.not_true, Bool.not_false, decide_true, decide_false]
end
end Cr
set_option Elab.async false
set_option linter.all false
set_option maxRecDepth 100000
set_option maxHeartbeats 1000000
/-! first_order; the law's dice. -/
namespace Cr
open PySem
section
variable {P : Prog} {fl ms : List (Str × Str)} {k : Nat} {A B : List Int}
/-! ### the dice -/
theorem mul_small {i j : Int} {mk : Bool} (h : small j = true) : binM .Mult mk (.int i) (.int j) = pure (.int (i * j)) := by
  show (if small i || small j || (wide i && wide j) then pure (.int (i * j)) else M.stuck : M D) = _
  rw [h]
  simp
theorem mul_smallL {i j : Int} {mk : Bool} (h : small i = true) : binM .Mult mk (.int i) (.int j) = pure (.int (i * j)) := by
  show (if small i || small j || (wide i && wide j) then pure (.int (i * j)) else M.stuck : M D) = _
  rw [h]
  simp
theorem mul_wide {i j : Int} {mk : Bool} (h : wide i = true) (h' : wide j = true) : binM .Mult mk (.int i) (.int j) = pure (.int (i * j)) := by
  show (if small i || small j || (wide i && wide j) then pure (.int (i * j)) else M.stuck : M D) = _
  rw [h, h']
  simp
theorem mod_pos {i j : Int} {mk : Bool} (h : 0 < j) : binM .Mod mk (.int i) (.int j) = pure (.int (i % j)) := by
  show (if 0 < j then pure (.int (i % j)) else M.stuck : M D) = _
  rw [if_pos h]
theorem div_pos {i j : Int} {mk : Bool} (h : 0 < j) (hw : wide j = true) : binM .FloorDiv mk (.int i) (.int j) = pure (.int (i / j)) := by
  show (if 0 < j ∧ wide j then pure (.int (i / j)) else M.stuck : M D) = _
  rw [if_pos ⟨h, hw⟩]
theorem wide_of {i : Int} (h0 : 0 ≤ i) (h1 : i < 2 ^ 200) : wide i = true := by
  unfold wide
  have : i.natAbs < 2 ^ 200 := by omega
  have q : (2 : Nat) ^ 200 < 2 ^ 600 := Nat.pow_lt_pow_right (by decide) (by decide)
  exact decide_eq_true (Nat.lt_trans this q)
theorem cell_ok (hC : P.has ("_law_cell", none) 2 0 (S__law_cell fl ms)) {ns : List Int} (hl : ns.length ≤ 63) (i : Nat) : ∃ c, run P (k + 1) ("_law_cell", none) [.scr ns, .int i] = pure (.int c) := by
  rw [hC k _ rfl, bodyM_F]
  unfold S__law_cell
  have es : Em 8 (.scr ns) (.list (ns.map .int)) := fun q hh hq => by
    cases q with
    | zero => omega
    | succ q => rfl
  have en : Em 8 (.lst []) (.list ([].map PyData.int)) := fun q hh hq => by
    cases q with
    | zero => omega
    | succ q => rfl
  have ee : cmpM .Eq (.scr ns) (.lst []) = pure (decide (ns = [])) := by
    rw [eq_of es en, eqv_list (fun a b => eqv_int)]
  have ln : b_len [.scr ns] = pure (.int ns.length) := rfl
  simp only [List.map_cons, List.map_nil, List.replicate, List.cons_append, List.nil_append, List.append_nil, bF_if, bF_assoc, bF_ret, bF_next, getV_0, getV_s, pure_bind, bind_assoc, dispM_0, ee, ln]
  by_cases h : ns = []
  · exact ⟨(i : Int) * 7919, by rw [decide_eq_true h, if_pos rfl, mul_small (by decide)]⟩
  · have hp : 0 < ns.length := List.length_pos_iff.mpr h
    have hp' : (0 : Int) < ns.length := by omega
    have hm : ((i : Int) % (ns.length : Int)) = ((i % ns.length : Nat) : Int) := by simp
    have hlt : i % ns.length < ns.length := Nat.mod_lt _ hp
    have ix : idxM (.scr ns) (.int ((i % ns.length : Nat) : Int)) = pure (.int (ns.getD (i % ns.length) 0)) := by
      show atL (ns.map .int) _ = _
      exact atL_nat (get_map hlt)
    refine ⟨ns.getD (i % ns.length) 0 + (i : Int) / (ns.length : Int) * 104729, ?_⟩
    rw [decide_eq_false h, if_neg (by decide), mod_pos hp', pure_bind, hm, ix, pure_bind, div_pos hp' (wide_of (by omega) (by omega)), pure_bind, mul_small (by decide), pure_bind, bin_add]
theorem drawn_ok (hD : P.has ("_law_drawn", none) 2 1 (S__law_drawn fl ms)) (c i : Int) : ∃ r, 0 ≤ r ∧ run P (k + 1) ("_law_drawn", none) [.int c, .int i] = pure (.int r) := by
  rw [hD k _ rfl, bodyM_F]
  unfold S__law_drawn
  simp only [List.map_cons, List.map_nil, List.replicate, List.cons_append, List.nil_append, List.append_nil, bF_asg, bF_ret, getV_0, getV_s, pure_bind, bind_assoc, stN_eq, List.set_cons_zero, List.set_cons_succ, bin_add]
  rw [mul_small (by decide), pure_bind, mul_small (by decide), pure_bind, bin_add, pure_bind, mod_pos (by decide), pure_bind]
  generalize (c * 6364136223846793005 + (i + 1) * 1442695040888963407) = y
  have y0 : 0 ≤ y % 340282366920938463463374607431768211507 := Int.emod_nonneg _ (by decide)
  have y1 : y % 340282366920938463463374607431768211507 < 340282366920938463463374607431768211507 := Int.emod_lt_of_pos _ (by decide)
  generalize y % 340282366920938463463374607431768211507 = z at *
  have b1 : (340282366920938463463374607431768211507 : Int) < 2 ^ 200 := by decide
  have wz : wide z = true := wide_of y0 (by omega)
  rw [mul_wide wz wz, pure_bind, mod_pos (by decide), pure_bind]
  have t0 : 0 ≤ z * z % 340282366920938463463374607431768211297 := Int.emod_nonneg _ (by decide)
  have t1 : z * z % 340282366920938463463374607431768211297 < 340282366920938463463374607431768211297 := Int.emod_lt_of_pos _ (by decide)
  generalize z * z % 340282366920938463463374607431768211297 = t at *
  have u0 : 0 ≤ t % 18446744073709551557 := Int.emod_nonneg _ (by decide)
  have u1 : t % 18446744073709551557 < 18446744073709551557 := Int.emod_lt_of_pos _ (by decide)
  have v0 : 0 ≤ t / 18446744073709551557 := Int.ediv_nonneg t0 (by decide)
  have v1 : t / 18446744073709551557 < 18446744073709551757 := by omega
  have sm : small (t % 18446744073709551557 + 1) = true := by
    unfold small
    simp only [decide_eq_true_eq]
    omega
  rw [mod_pos (by decide), pure_bind, bin_add, pure_bind, div_pos (by decide) (wide_of (by decide) (by decide)), pure_bind, bin_add, pure_bind, mul_smallL sm, pure_bind]
  have w1 : wide ((t % 18446744073709551557 + 1) * (t / 18446744073709551557 + 1)) = true := by
    refine wide_of (Int.mul_nonneg (by omega) (by omega)) ?_
    have q : (t % 18446744073709551557 + 1) * (t / 18446744073709551557 + 1) ≤ 18446744073709551557 * 18446744073709551757 := Int.mul_le_mul (by omega) (by omega) (by omega) (by omega)
    have : (18446744073709551557 * 18446744073709551757 : Int) < 2 ^ 200 := by decide
    omega
  have w2 : wide t = true := wide_of t0 (by omega)
  rw [mul_wide w1 w2, pure_bind]
  refine ⟨_, ?_, mod_pos (by decide)⟩
  exact Int.emod_nonneg _ (by decide)
/-! ### a roll -/
theorem idx_cell {h : AH} {n : Nat} {l : List D} {i : Nat} {d : D} (e : h[n]? = some (.lst l)) (hd : l[i]? = some d) : idxM (.ref n) (.int (i : Int)) h = .ok d h := by
  show (getC n >>= _) h = _
  rw [bind_ok (getC_ok e)]
  show atL l (i : Int) h = _
  rw [atL_nat hd]
  rfl
theorem store_cell {h : AH} {n : Nat} {l : List D} {i : Nat} {v : D} (e : h[n]? = some (.lst l)) (hi : i < l.length) : storeM (.ref n) (.int (i : Int)) v h = .ok () (h.set n (.lst (l.set i v))) := by
  show (getC n >>= _) h = _
  rw [bind_ok (getC_ok e)]
  show storeL n l v (.int (i : Int)) h = _
  unfold storeL
  dsimp only
  rw [ixOf_nat hi]
  rfl
/-- a die lies at n -/
def Die (n : Nat) (h : AH) : Prop := ∃ c i, h[n]? = some (.lst [.int c, .int i])
structure HDice (P : Prog) (fl ms : List (Str × Str)) : Prop where
  cell : P.has ("_law_cell", none) 2 0 (S__law_cell fl ms)
  drawn : P.has ("_law_drawn", none) 2 1 (S__law_drawn fl ms)
  roll : P.has ("_law_roll", none) 2 1 (S__law_roll fl ms)
  rounds : P.has ("_law_rounds", none) 2 1 (S__law_rounds fl ms)
theorem roll_ok (U : HDice P fl ms) {n : Nat} {h : AH} (dh : Die n h) {m : Nat} (hm : 0 < m) (hl : m ≤ 1000) :
    ∃ t c i, t < m ∧ run P (k + 2) ("_law_roll", none) [.ref n, .int m] h = .ok (.int (t : Nat)) (h.set n (.lst [.int c, .int i])) := by
  obtain ⟨c, i, e⟩ := dh
  have hn : n < h.length := (List.getElem?_eq_some_iff.mp e).1
  have hm' : (0 : Int) < m := by omega
  have e0 : idxM (.ref n) (.int 0) h = .ok (.int c) h := idx_cell (i := 0) e rfl
  have e1 : idxM (.ref n) (.int 1) h = .ok (.int i) h := idx_cell (i := 1) e rfl
  have pw : binM .Pow false (.int 10) (.int 18) = pure (.int (10 ^ 18)) := rfl
  show ∃ t c' i', _ ∧ run P ((k + 1) + 1) _ _ h = _
  rw [U.roll (k + 1) _ rfl, bodyM_F]
  unfold S__law_roll
  simp only [List.map_cons, List.map_nil, List.replicate, List.cons_append, List.nil_append, List.append_nil, bF_if, bF_assoc, bF_asg, bF_expr, bF_ret, bF_next, getV_0, getV_s, pure_bind, bind_assoc, stN_eq, List.set_cons_zero, List.set_cons_succ, pw]
  rw [bind_ok e0, cmp_ge, pure_bind]
  by_cases hc : (10 : Int) ^ 18 ≤ c
  · have t0 := Int.emod_nonneg c (Int.ne_of_gt hm')
    have t1 := Int.emod_lt_of_pos c hm'
    refine ⟨(c % m).toNat, c / m, i, by omega, ?_⟩
    have s0 : storeM (.ref n) (.int 0) (.int (c / m)) h = .ok () (h.set n (.lst [.int (c / m), .int i])) := store_cell (i := 0) e (by simp)
    rw [decide_eq_true hc, if_pos rfl, bind_ok e0, mod_pos hm', pure_bind, bind_ok e0, div_pos hm' (wide_of (by omega) (by omega)), pure_bind, bind_ok s0]
    rw [Int.toNat_of_nonneg t0]
    rfl
  · obtain ⟨r, r0, er⟩ := drawn_ok (k := k) U.drawn c (i + 1)
    have e2 : (h.set n (.lst [.int c, .int (i + 1)]))[n]? = some (.lst [.int c, .int (i + 1)]) := List.getElem?_set_self hn
    have t0 := Int.emod_nonneg (r / 8) (Int.ne_of_gt hm')
    have t1 := Int.emod_lt_of_pos (r / 8) hm'
    refine ⟨(r / 8 % m).toNat, c, i + 1, by omega, ?_⟩
    have s1 : storeM (.ref n) (.int 1) (.int (i + 1)) h = .ok () (h.set n (.lst [.int c, .int (i + 1)])) := store_cell (i := 1) e (by simp)
    have e3 : idxM (.ref n) (.int 0) (h.set n (.lst [.int c, .int (i + 1)])) = .ok (.int c) (h.set n (.lst [.int c, .int (i + 1)])) := idx_cell (i := 0) e2 rfl
    have e4 : idxM (.ref n) (.int 1) (h.set n (.lst [.int c, .int (i + 1)])) = .ok (.int (i + 1)) (h.set n (.lst [.int c, .int (i + 1)])) := idx_cell (i := 1) e2 rfl
    rw [decide_eq_false hc, if_neg (by decide), bind_ok e1, bin_add, pure_bind, bind_ok s1, bind_ok e3, bind_ok e4, er, pure_bind, div_pos (by decide) (wide_of (by decide) (by decide)), pure_bind, mod_pos hm', Int.toNat_of_nonneg t0]
    rfl
end
end Cr
set_option Elab.async false
set_option linter.all false
set_option maxRecDepth 100000
set_option maxHeartbeats 1000000
/-! The law's mails. -/
namespace Cr
open PySem
theorem app_at {ms : List (Str × Str)} {o : Ora} {h h1 : AH} {r : Nat} {l l1 : List D} {y : D} {args : M (List D)} (e : h[r]? = some (.lst l)) (ea : args h = .ok [y] h1) (e1 : h1[r]? = some (.lst l1)) (hl : l1.length < most) :
    methM ms o "append" (.ref r) args h = .ok .non (h1.set r (.lst (l1 ++ [y]))) := by
  show (getC r >>= _) h = _
  rw [bind_ok (getC_ok e)]
  show (if ("append" : Str) = "append" then (args >>= fun l => appM r l) else M.stuck : M D) h = _
  rw [if_pos rfl, bind_ok ea]
  show (getC r >>= _) h1 = _
  rw [bind_ok (getC_ok e1)]
  show (if l1.length < most then (setC r (.lst (l1 ++ [y])) >>= fun _ => pure D.non) else M.stuck : M D) h1 = _
  rw [if_pos hl]
  rfl
theorem len_cell {h : AH} {n : Nat} {l : List D} (e : h[n]? = some (.lst l)) : b_len [.ref n] h = .ok (.int l.length) h := by
  show (getC n >>= _) h = _
  rw [bind_ok (getC_ok e)]
  rfl
theorem tup_cell {h : AH} {n : Nat} {l : List D} (e : h[n]? = some (.lst l)) : b_tuple [.ref n] h = .ok (.tup l) h := by
  show (items (.ref n) >>= fun l => pure (D.tup l)) h = _
  have q : items (.ref n) h = .ok l h := by
    show (getC n >>= _) h = _
    rw [bind_ok (getC_ok e)]
    rfl
  rw [bind_ok q]
  rfl
/-- nothing but the die at n is changed; things may be new -/
structure Keep (n : Nat) (h h' : AH) : Prop where
  len : h.length ≤ h'.length
  same : ∀ m, m < h.length → m ≠ n → h'[m]? = h[m]?
  die : Die n h'
theorem Keep.trans {n : Nat} {h h1 h2 : AH} (a : Keep n h h1) (b : Keep n h1 h2) : Keep n h h2 := ⟨Nat.le_trans a.len b.len, fun m hm hn => (b.same m (Nat.lt_of_lt_of_le hm a.len) hn).trans (a.same m hm hn), b.die⟩
/-- a row: rising, its numbers from 0 up to m -/
structure RowOk (r : List Int) (m : Int) : Prop where
  up : r.Pairwise (· ≤ ·)
  at_ : ∀ x ∈ r, 0 ≤ x ∧ x ≤ m
def lowOf (r : List Int) : Int := r.getLast?.getD 0
theorem RowOk.mono {r : List Int} {m m' : Int} (h : RowOk r m) (hm : m ≤ m') : RowOk r m' := ⟨h.up, fun x hx => ⟨(h.at_ x hx).1, Int.le_trans (h.at_ x hx).2 hm⟩⟩
theorem le_low {r : List Int} (h : r.Pairwise (· ≤ ·)) {x : Int} (hx : x ∈ r) : x ≤ lowOf r := by
  obtain ⟨l, y, rfl⟩ : ∃ l y, r = l ++ [y] := by
    rcases List.eq_nil_or_concat r with z | ⟨l, y, z⟩
    · subst z; cases hx
    · exact ⟨l, y, by simpa using z⟩
  have e : lowOf (l ++ [y]) = y := by simp [lowOf]
  rw [e]
  rcases List.mem_append.mp hx with q | q
  · exact (List.pairwise_append.mp h).2.2 x q y (by simp)
  · have : x = y := by simpa using q
    omega
theorem RowOk.low {r : List Int} {m : Int} (h : RowOk r m) (hm : 0 ≤ m) : 0 ≤ lowOf r ∧ lowOf r ≤ m := by
  rcases List.eq_nil_or_concat r with z | ⟨l, y, z⟩
  · subst z
    exact ⟨Int.le_refl _, hm⟩
  · have z : r = l ++ [y] := by simpa using z
    subst z
    have e : lowOf (l ++ [y]) = y := by simp [lowOf]
    rw [e]
    exact h.at_ y (by simp)
theorem RowOk.snoc {r : List Int} {m x : Int} (h : RowOk r m) (h1 : lowOf r ≤ x) (h0 : 0 ≤ x) (h2 : x ≤ m) : RowOk (r ++ [x]) m := by
  refine ⟨List.pairwise_append.mpr ⟨h.up, by simp, fun a ha b hb => ?_⟩, fun y hy => ?_⟩
  · have e : b = x := by simpa using hb
    rw [e]
    exact Int.le_trans (le_low h.up ha) h1
  · rcases List.mem_append.mp hy with q | q
    · exact h.at_ y q
    · have e : y = x := by simpa using q
      rw [e]
      exact ⟨h0, h2⟩
theorem zip_tail {r : List Int} : r.Pairwise (· ≤ ·) → (r.zip r.tail).all (fun p => decide (p.1 ≤ p.2)) = true := by
  induction r with
  | nil => intro _; rfl
  | cons a r ih =>
    intro h
    cases r with
    | nil => rfl
    | cons b r =>
      have q := ih (List.pairwise_cons.mp h).2
      have p := (List.pairwise_cons.mp h).1 b (by simp)
      show (decide (a ≤ b) && ((b :: r).zip r).all _) = true
      rw [decide_eq_true p]
      exact q
theorem RowOk.bund {r : List Int} {m : Int} (h : RowOk r m) (hl : r.length ≤ 7) : bundB r m = true := by
  unfold bundB
  rw [zip_tail h.up]
  simp only [Bool.and_eq_true, Bool.and_true, decide_eq_true_eq, List.all_eq_true]
  exact ⟨by omega, fun x hx => h.at_ x hx⟩
/-! ### written mail -/
/-- the heap while mail is written: rows at L and L + 1, turns behind -/
structure Wr (n L : Nat) (h0 h : AH) (r0 r1 : List Int) (tl : List Nat) : Prop where
  len : h.length = L + 3
  die : Die n h
  nl : n < L
  c0 : h[L]? = some (.lst (r0.map .int))
  c1 : h[L + 1]? = some (.lst (r1.map .int))
  c2 : h[L + 2]? = some (.lst (nats tl))
  keep : ∀ m, m < L → m ≠ n → h[m]? = h0[m]?
theorem Wr.dice {n L : Nat} {h0 h : AH} {r0 r1 : List Int} {tl : List Nat} (W : Wr n L h0 h r0 r1 tl) {c i : Int} : Wr n L h0 (h.set n (.lst [.int c, .int i])) r0 r1 tl := by
  have nl := W.nl
  have hl := W.len
  refine ⟨by rw [List.length_set]; exact W.len, ⟨c, i, List.getElem?_set_self (by omega)⟩, nl, ?_, ?_, ?_, fun m hm hn => ?_⟩
  · rw [List.getElem?_set_ne (by omega)]; exact W.c0
  · rw [List.getElem?_set_ne (by omega)]; exact W.c1
  · rw [List.getElem?_set_ne (by omega)]; exact W.c2
  · rw [List.getElem?_set_ne (Ne.symm hn)]; exact W.keep m hm hn
theorem Wr.row0 {n L : Nat} {h0 h : AH} {r0 r1 : List Int} {tl : List Nat} (W : Wr n L h0 h r0 r1 tl) {x : Int} : Wr n L h0 (h.set L (.lst (r0.map .int ++ [.int x]))) (r0 ++ [x]) r1 tl := by
  have nl := W.nl
  have hl := W.len
  obtain ⟨c, i, e⟩ := W.die
  refine ⟨by rw [List.length_set]; exact W.len, ⟨c, i, by rw [List.getElem?_set_ne (by omega)]; exact e⟩, nl, ?_, ?_, ?_, fun m hm hn => ?_⟩
  · rw [List.getElem?_set_self (by omega)]; simp
  · rw [List.getElem?_set_ne (by omega)]; exact W.c1
  · rw [List.getElem?_set_ne (by omega)]; exact W.c2
  · rw [List.getElem?_set_ne (by omega)]; exact W.keep m hm hn
theorem Wr.row1 {n L : Nat} {h0 h : AH} {r0 r1 : List Int} {tl : List Nat} (W : Wr n L h0 h r0 r1 tl) {x : Int} : Wr n L h0 (h.set (L + 1) (.lst (r1.map .int ++ [.int x]))) r0 (r1 ++ [x]) tl := by
  have nl := W.nl
  have hl := W.len
  obtain ⟨c, i, e⟩ := W.die
  refine ⟨by rw [List.length_set]; exact W.len, ⟨c, i, by rw [List.getElem?_set_ne (by omega)]; exact e⟩, nl, ?_, ?_, ?_, fun m hm hn => ?_⟩
  · rw [List.getElem?_set_ne (by omega)]; exact W.c0
  · rw [List.getElem?_set_self (by omega)]; simp
  · rw [List.getElem?_set_ne (by omega)]; exact W.c2
  · rw [List.getElem?_set_ne (by omega)]; exact W.keep m hm hn
theorem Wr.turn {n L : Nat} {h0 h : AH} {r0 r1 : List Int} {tl : List Nat} (W : Wr n L h0 h r0 r1 tl) {x : Nat} : Wr n L h0 (h.set (L + 2) (.lst (nats tl ++ [.int x]))) r0 r1 (tl ++ [x]) := by
  have nl := W.nl
  have hl := W.len
  obtain ⟨c, i, e⟩ := W.die
  refine ⟨by rw [List.length_set]; exact W.len, ⟨c, i, by rw [List.getElem?_set_ne (by omega)]; exact e⟩, nl, ?_, ?_, ?_, fun m hm hn => ?_⟩
  · rw [List.getElem?_set_ne (by omega)]; exact W.c0
  · rw [List.getElem?_set_ne (by omega)]; exact W.c1
  · rw [List.getElem?_set_self (by omega)]; simp
  · rw [List.getElem?_set_ne (by omega)]; exact W.keep m hm hn
theorem ne_nil_cell {h : AH} {n : Nat} {r : List Int} (e : h[n]? = some (.lst (r.map .int))) : cmpM .NotEq (.ref n) (.lst []) h = .ok (!decide (r = [])) h := by
  have q : eqM (.ref n) (.lst []) h = .ok (decide (r = [])) h := by
    unfold eqM
    have e1 : emb 8 h (.ref n) = some (.list (r.map .int)) := by
      show (match h[n]? with | some (.lst l) => (l.mapM (emb 7 h)).map PyData.list | _ => none) = _
      rw [e]
      show ((r.map D.int).mapM (emb 7 h)).map PyData.list = _
      rw [mapM_em (g := PyData.int) fun b _ => rfl]
      rfl
    have e2 : emb 8 h (.lst []) = some (.list ([].map PyData.int)) := rfl
    rw [e1, e2]
    show Cr.R.ok (PyData.eqv (.list (r.map .int)) (.list ([].map PyData.int))) h = _
    rw [eqv_list (fun a b => eqv_int)]
  show M.bind (eqM (.ref n) (.lst [])) (fun c => M.pure (!c)) h = _
  unfold M.bind
  rw [q]
theorem idx_last {h : AH} {n : Nat} {r : List Int} (e : h[n]? = some (.lst (r.map .int))) (hr : r ≠ []) : idxM (.ref n) (.int (-1)) h = .ok (.int (lowOf r)) h := by
  obtain ⟨l, y, rfl⟩ : ∃ l y, r = l ++ [y] := by
    rcases List.eq_nil_or_concat r with z | ⟨l, y, z⟩
    · exact absurd z hr
    · exact ⟨l, y, by simpa using z⟩
  have el : lowOf (l ++ [y]) = y := by simp [lowOf]
  show (getC n >>= _) h = _
  rw [bind_ok (getC_ok e), el]
  show atL ((l ++ [y]).map .int) (-1) h = _
  unfold atL ixOf
  simp
end Cr
set_option Elab.async false
set_option linter.all false
set_option maxRecDepth 100000
set_option maxHeartbeats 1000000
/-! _law_written. -/
namespace Cr
open PySem
section
variable {P : Prog} {fl ms : List (Str × Str)} {k : Nat} (U : HDice P fl ms)
include U
/-- a roll, while mail is written -/
theorem roll_wr {n L : Nat} {h0 h : AH} {r0 r1 : List Int} {tl : List Nat} (W : Wr n L h0 h r0 r1 tl) {m : Int} (hm : 0 < m) (hl : m ≤ 1000) :
    ∃ (t : Nat) (h' : AH), (t : Int) < m ∧ run P (k + 2) ("_law_roll", none) [.ref n, .int m] h = .ok (.int t) h' ∧ Wr n L h0 h' r0 r1 tl := by
  obtain ⟨q, hq⟩ : ∃ q : Nat, m = q := ⟨m.toNat, by omega⟩
  subst hq
  obtain ⟨t, c, i, h1, h2⟩ := roll_ok (k := k) U W.die (m := q) (by omega) (by omega)
  exact ⟨t, _, by omega, h2, W.dice⟩
theorem written_turn {n L t0 t1 : Nat} {x1 x2 : D} {h0 h1 : AH} {r0 r1 : List Int} {tl : List Nat} {q6 q7 : Option D} (W : Wr n L h0 h1 r0 r1 tl) (k0 : RowOk r0 r1.length) (k1 : RowOk r1 r0.length) (b0 : r0.length ≤ 100) (b1 : r1.length ≤ 100) (bt : tl.length ≤ 100) (more : r0.length < t0 ∨ r1.length < t1) :
    ∃ ρ' h', L1__law_written fl ms (run P (k + 2)) [some (.ref n), some x1, some x2, some (.tup [.int t0, .int t1]), some (.lst [.ref L, .ref (L + 1)]), some (.ref (L + 2)), q6, q7] h1 = .next ρ' h' ∧
      ((r0.length < t0 ∧ ∃ (x : Int) (q7' : Option D), ρ' = [some (.ref n), some x1, some x2, some (.tup [.int t0, .int t1]), some (.lst [.ref L, .ref (L + 1)]), some (.ref (L + 2)), some (.int 0), q7'] ∧ Wr n L h0 h' (r0 ++ [x]) r1 (tl ++ [0]) ∧ RowOk (r0 ++ [x]) r1.length) ∨
       (r1.length < t1 ∧ ∃ (x : Int) (q7' : Option D), ρ' = [some (.ref n), some x1, some x2, some (.tup [.int t0, .int t1]), some (.lst [.ref L, .ref (L + 1)]), some (.ref (L + 2)), some (.int 1), q7'] ∧ Wr n L h0 h' r0 (r1 ++ [x]) (tl ++ [1]) ∧ RowOk (r1 ++ [x]) r0.length)) := by
  obtain ⟨sd, h2, hsd, er, W2⟩ := roll_wr U (k := k) W (m := 2) (by omega) (by omega)
  have ln0 : b_len [.ref L] h2 = .ok (.int r0.length) h2 := by rw [len_cell W2.c0]; simp
  have ln1 : b_len [.ref (L + 1)] h2 = .ok (.int r1.length) h2 := by rw [len_cell W2.c1]; simp
  have mo : (100 : Nat) < most := by decide
  obtain ⟨s2, hs2, hc⟩ : ∃ s2 : Nat, ((s2 = 0 ∧ r0.length < t0) ∨ (s2 = 1 ∧ r1.length < t1)) ∧ ((sd = 0 ∧ r0.length < t0 ∧ s2 = 0) ∨ (sd = 0 ∧ ¬ r0.length < t0 ∧ s2 = 1) ∨ (sd = 1 ∧ r1.length < t1 ∧ s2 = 1) ∨ (sd = 1 ∧ ¬ r1.length < t1 ∧ s2 = 0)) := by
    have : sd = 0 ∨ sd = 1 := by omega
    rcases this with z | z
    · by_cases q : r0.length < t0
      · exact ⟨0, .inl ⟨rfl, q⟩, .inl ⟨z, q, rfl⟩⟩
      · exact ⟨1, .inr ⟨rfl, by omega⟩, .inr (.inl ⟨z, q, rfl⟩)⟩
    · by_cases q : r1.length < t1
      · exact ⟨1, .inr ⟨rfl, q⟩, .inr (.inr (.inl ⟨z, q, rfl⟩))⟩
      · exact ⟨0, .inl ⟨rfl, by omega⟩, .inr (.inr (.inr ⟨z, q, rfl⟩))⟩
  unfold L1__law_written
  rw [sq_asg (ρ' := [some (.ref n), some x1, some x2, some (.tup [.int t0, .int t1]), some (.lst [.ref L, .ref (L + 1)]), some (.ref (L + 2)), some (.int sd), q7]) (h' := h2) ?e1]
  case e1 =>
    simp only [getV_0, getV_s, pure_bind, bind_assoc]
    rw [bind_ok er]
    rfl
  rw [sq_asg (ρ' := [some (.ref n), some x1, some x2, some (.tup [.int t0, .int t1]), some (.lst [.ref L, .ref (L + 1)]), some (.ref (L + 2)), some (.int s2), q7]) (h' := h2) ?e2]
  case e2 =>
    simp only [getV_0, getV_s, pure_bind, bind_assoc]
    rcases hc with ⟨rfl, q, rfl⟩ | ⟨rfl, q, rfl⟩ | ⟨rfl, q, rfl⟩ | ⟨rfl, q, rfl⟩
    · show (idxM (.lst [.ref L, .ref (L + 1)]) (.int 0) >>= _) h2 = _
      rw [idx_l0, pure_bind, bind_ok ln0]
      show (idxM (.tup [.int t0, .int t1]) (.int 0) >>= _) h2 = _
      rw [idx_t0, pure_bind, cmp_lt, pure_bind, decide_eq_true (by omega)]
      rfl
    · show (idxM (.lst [.ref L, .ref (L + 1)]) (.int 0) >>= _) h2 = _
      rw [idx_l0, pure_bind, bind_ok ln0]
      show (idxM (.tup [.int t0, .int t1]) (.int 0) >>= _) h2 = _
      rw [idx_t0, pure_bind, cmp_lt, pure_bind, decide_eq_false (by omega)]
      rfl
    · show (idxM (.lst [.ref L, .ref (L + 1)]) (.int 1) >>= _) h2 = _
      rw [idx_l1, pure_bind, bind_ok ln1]
      show (idxM (.tup [.int t0, .int t1]) (.int 1) >>= _) h2 = _
      rw [idx_t1, pure_bind, cmp_lt, pure_bind, decide_eq_true (by omega)]
      rfl
    · show (idxM (.lst [.ref L, .ref (L + 1)]) (.int 1) >>= _) h2 = _
      rw [idx_l1, pure_bind, bind_ok ln1]
      show (idxM (.tup [.int t0, .int t1]) (.int 1) >>= _) h2 = _
      rw [idx_t1, pure_bind, cmp_lt, pure_bind, decide_eq_false (by omega)]
      rfl
  rcases hs2 with ⟨rfl, hlt⟩ | ⟨rfl, hlt⟩
  · have lo := k0.low (by omega)
    obtain ⟨t, h3, ht, er3, W3⟩ := roll_wr U (k := k) W2 (m := (r1.length : Int) - lowOf r0 + 1) (by omega) (by omega)
    have e0 : ∀ (ρ : Env), idxM (.lst [.ref L, .ref (L + 1)]) (.int ((0 : Nat) : Int)) = pure (.ref L) := fun _ => idx_l0
    have i0 : idxM (.lst [.ref L, .ref (L + 1)]) (.int ((0 : Nat) : Int)) = pure (.ref L) := idx_l0
    have i1 : binM .Sub false (.int 1) (.int ((0 : Nat) : Int)) = pure (.int 1) := rfl
    rw [sq_asg (ρ' := [some (.ref n), some x1, some x2, some (.tup [.int t0, .int t1]), some (.lst [.ref L, .ref (L + 1)]), some (.ref (L + 2)), some (.int ((0 : Nat) : Int)), some (.int (lowOf r0))]) (h' := h2) ?e3]
    case e3 =>
      simp only [getV_0, getV_s, pure_bind, bind_assoc, i0, dispM_0, neg_int]
      rw [bind_ok (ne_nil_cell W2.c0)]
      by_cases hr : r0 = []
      · subst hr
        rfl
      · rw [decide_eq_false hr]
        show (idxM (.ref L) (.int (-1)) >>= _) h2 = _
        rw [bind_ok (idx_last W2.c0 hr)]
        rfl
    rw [sq_expr (a := .non) (h' := h3.set L (.lst (r0.map .int ++ [.int (lowOf r0 + t)]))) ?e4]
    case e4 =>
      simp only [getV_0, getV_s, pure_bind, bind_assoc, i0]
      refine app_at W2.c0 (h1 := h3) ?_ W3.c0 (by simp; omega)
      simp only [i1, pure_bind, idx_l1]
      rw [bind_ok ln1, bin_sub, pure_bind, bin_add, pure_bind, bind_ok er3]
      rfl
    have W4 := W3.row0 (x := lowOf r0 + t)
    rw [sq_expr (a := .non) (h' := (h3.set L (.lst (r0.map .int ++ [.int (lowOf r0 + t)]))).set (L + 2) (.lst (nats tl ++ [.int ((0 : Nat) : Int)]))) ?e5]
    case e5 =>
      simp only [getV_0, getV_s, pure_bind, bind_assoc]
      exact app_at W4.c2 rfl W4.c2 (by simp; omega)
    exact ⟨_, _, rfl, .inl ⟨hlt, lowOf r0 + t, _, rfl, W4.turn, k0.snoc (by omega) (by omega) (by omega)⟩⟩
  · have lo := k1.low (by omega)
    obtain ⟨t, h3, ht, er3, W3⟩ := roll_wr U (k := k) W2 (m := (r0.length : Int) - lowOf r1 + 1) (by omega) (by omega)
    have i0 : idxM (.lst [.ref L, .ref (L + 1)]) (.int ((1 : Nat) : Int)) = pure (.ref (L + 1)) := idx_l1
    have i1 : binM .Sub false (.int 1) (.int ((1 : Nat) : Int)) = pure (.int 0) := rfl
    rw [sq_asg (ρ' := [some (.ref n), some x1, some x2, some (.tup [.int t0, .int t1]), some (.lst [.ref L, .ref (L + 1)]), some (.ref (L + 2)), some (.int ((1 : Nat) : Int)), some (.int (lowOf r1))]) (h' := h2) ?e3]
    case e3 =>
      simp only [getV_0, getV_s, pure_bind, bind_assoc, i0, dispM_0, neg_int]
      rw [bind_ok (ne_nil_cell W2.c1)]
      by_cases hr : r1 = []
      · subst hr
        rfl
      · rw [decide_eq_false hr]
        show (idxM (.ref (L + 1)) (.int (-1)) >>= _) h2 = _
        rw [bind_ok (idx_last W2.c1 hr)]
        rfl
    rw [sq_expr (a := .non) (h' := h3.set (L + 1) (.lst (r1.map .int ++ [.int (lowOf r1 + t)]))) ?e4]
    case e4 =>
      simp only [getV_0, getV_s, pure_bind, bind_assoc, i0]
      refine app_at W2.c1 (h1 := h3) ?_ W3.c1 (by simp; omega)
      simp only [i1, pure_bind, idx_l0]
      rw [bind_ok ln0, bin_sub, pure_bind, bin_add, pure_bind, bind_ok er3]
      rfl
    have W4 := W3.row1 (x := lowOf r1 + t)
    rw [sq_expr (a := .non) (h' := (h3.set (L + 1) (.lst (r1.map .int ++ [.int (lowOf r1 + t)]))).set (L + 2) (.lst (nats tl ++ [.int ((1 : Nat) : Int)]))) ?e5]
    case e5 =>
      simp only [getV_0, getV_s, pure_bind, bind_assoc]
      exact app_at W4.c2 rfl W4.c2 (by simp; omega)
    exact ⟨_, _, rfl, .inr ⟨hlt, lowOf r1 + t, _, rfl, W4.turn, k1.snoc (by omega) (by omega) (by omega)⟩⟩
theorem written_ok (hW : P.has ("_law_written", none) 3 5 (S__law_written fl ms)) {n : Nat} {h : AH} (dh : Die n h) {f s : Nat} (hf : f ≤ 7) (hs : s ≤ 7) :
    ∃ (r0 r1 : List Int) (tl : List Nat) (h' : AH), run P (k + 3) ("_law_written", none) [.ref n, .int f, .int s] h = .ok (.tup [mailD r0 r1, .tup (nats tl)]) h' ∧ Keep n h h' ∧ RowOk r0 r1.length ∧ RowOk r1 r0.length ∧ r0.length ≤ f ∧ r1.length ≤ s := by
  have nl : n < h.length := by
    obtain ⟨c, i, e⟩ := dh
    exact (List.getElem?_eq_some_iff.mp e).1
  show ∃ r0 r1 tl h', run P ((k + 2) + 1) _ _ h = _ ∧ _
  rw [hW (k + 2) _ rfl, bodyM_F]
  unfold S__law_written
  simp only [List.map_cons, List.map_nil, List.replicate, List.cons_append, List.nil_append, bF_asg, getV_0, getV_s, pure_bind, bind_assoc, tupM_2, tupM_3, bin_add]
  obtain ⟨t0, c0, i0, l0, e0⟩ := roll_ok (k := k) U dh (m := f + 1) (by omega) (by omega)
  have d1 : Die n (h.set n (.lst [.int c0, .int i0])) := ⟨c0, i0, List.getElem?_set_self nl⟩
  obtain ⟨t1, c1, i1, l1, e1⟩ := roll_ok (k := k) U d1 (m := s + 1) (by omega) (by omega)
  have e0 : run P (k + 2) ("_law_roll", none) [.ref n, .int ((f : Int) + 1)] h = _ := e0
  have e1 : run P (k + 2) ("_law_roll", none) [.ref n, .int ((s : Int) + 1)] _ = _ := e1
  rw [bind_ok e0, bind_ok e1]
  rw [List.set_set]
  have al : ∀ h : AH, dispM true [] h = .ok (.ref h.length) (h ++ [.lst []]) := fun h => rfl
  have al2 : ∀ l : List D, l.length = 2 → dispM false l = pure (.lst l) := fun l hl => dispM_le (by rw [hl]; decide)
  rw [bind_ok (al _), bind_ok (al _), al2 _ rfl, pure_bind, bind_ok (al _)]
  simp only [stT3, pure_bind, List.set_cons_zero, List.set_cons_succ, List.length_append, List.length_set, List.length_cons, List.length_nil]
  have hlen : ∀ x : Cell, (h.set n x).length = h.length := fun x => List.length_set
  have W0 : Wr n h.length h (h.set n (.lst [.int c1, .int i1]) ++ [.lst []] ++ [.lst []] ++ [.lst []]) [] [] [] := by
    refine ⟨by simp, ⟨c1, i1, ?_⟩, nl, by simp, ?_, ?_, fun m hm hn => ?_⟩
    · rw [List.append_assoc, List.append_assoc, List.getElem?_append_left (by simp; exact nl), List.getElem?_set_self nl]
    · rw [List.append_assoc, List.append_assoc, List.getElem?_append_right (by simp)]
      simp
    · rw [List.append_assoc, List.append_assoc, List.getElem?_append_right (by simp)]
      simp
    · rw [List.append_assoc, List.append_assoc, List.getElem?_append_left (by simp; exact hm), List.getElem?_set_ne (Ne.symm hn)]
  have z0 : h.length + (0 + 1) = h.length + 1 := rfl
  have z1 : h.length + (0 + 1) + (0 + 1) = h.length + 2 := rfl
  rw [z1, z0]
  refine bF_while (Q := fun r => ∃ (r0 r1 : List Int) (tl : List Nat) (h' : AH), r = .ok (.tup [mailD r0 r1, .tup (nats tl)]) h' ∧ Keep n h h' ∧ RowOk r0 r1.length ∧ RowOk r1 r0.length ∧ r0.length ≤ f ∧ r1.length ≤ s)
    (fun q ρ h' => ∃ (r0 r1 : List Int) (tl : List Nat) (q6 q7 : Option D), (t0 - r0.length) + (t1 - r1.length) = q ∧ r0.length ≤ t0 ∧ r1.length ≤ t1 ∧ tl.length + q ≤ 14 ∧
      ρ = [some (.ref n), some (.int f), some (.int s), some (.tup [.int t0, .int t1]), some (.lst [.ref h.length, .ref (h.length + 1)]), some (.ref (h.length + 2)), q6, q7] ∧ Wr n h.length h h' r0 r1 tl ∧ RowOk r0 r1.length ∧ RowOk r1 r0.length) ?_ ?_ (f := t0 + t1)
    ⟨[], [], [], none, none, by simp, Nat.zero_le _, Nat.zero_le _, by simp; omega, rfl, W0, ⟨.nil, fun x hx => (by cases hx)⟩, ⟨.nil, fun x hx => (by cases hx)⟩⟩ (by omega)
  · rintro q ρ h1 ⟨r0, r1, tl, q6, q7, hq, b0, b1, bt, rfl, W, k0, k1⟩
    simp only [getV_0, getV_s, pure_bind, bind_assoc, idx_l0, idx_l1, idx_t0, idx_t1]
    refine ⟨h1, ?_⟩
    have ln0 : b_len [.ref h.length] h1 = .ok (.int r0.length) h1 := by rw [len_cell W.c0]; simp
    have ln1 : b_len [.ref (h.length + 1)] h1 = .ok (.int r1.length) h1 := by rw [len_cell W.c1]; simp
    obtain ⟨ρ', h', e, cs⟩ := written_turn U (k := k) (q6 := q6) (q7 := q7) (x1 := .int f) (x2 := .int s) (t0 := t0) (t1 := t1) W k0 k1 (by omega) (by omega) (by omega) (by omega)
    refine ⟨ρ', h', ?_, e, ?_⟩
    · rw [bind_ok ln0, cmp_lt, pure_bind]
      by_cases hh : (r0.length : Int) < t0
      · rw [decide_eq_true hh]; rfl
      · rw [decide_eq_false hh, if_neg (by decide), bind_ok ln1, cmp_lt, decide_eq_true (by omega)]
        rfl
    · rcases cs with ⟨lt, x, q7', rfl, W', kx⟩ | ⟨lt, x, q7', rfl, W', kx⟩
      · exact ⟨r0 ++ [x], r1, tl ++ [0], _, q7', by simp; omega, by simp; omega, b1, by simp; omega, rfl, W', kx, k1.mono (by simp; omega)⟩
      · exact ⟨r0, r1 ++ [x], tl ++ [1], _, q7', by simp; omega, b0, by simp; omega, by simp; omega, rfl, W', k0.mono (by simp; omega), kx⟩
  · rintro ρ h1 ⟨r0, r1, tl, q6, q7, hq, b0, b1, bt, rfl, W, k0, k1⟩
    simp only [getV_0, getV_s, pure_bind, bind_assoc, idx_l0, idx_l1, idx_t0, idx_t1]
    have ln0 : b_len [.ref h.length] h1 = .ok (.int r0.length) h1 := by rw [len_cell W.c0]; simp
    have ln1 : b_len [.ref (h.length + 1)] h1 = .ok (.int r1.length) h1 := by rw [len_cell W.c1]; simp
    refine ⟨h1, ?_, r0, r1, tl, h1, ?_, ⟨by have := W.len; omega, W.keep, W.die⟩, k0, k1, by omega, by omega⟩
    · rw [bind_ok ln0, cmp_lt, pure_bind, decide_eq_false (by omega), if_neg (by decide), bind_ok ln1, cmp_lt, decide_eq_false (by omega)]
      rfl
    · simp only [bF_ret, getV_0, getV_s, pure_bind, bind_assoc, idx_l0, idx_l1, tupM_2]
      rw [bind_ok (tup_cell W.c0), bind_ok (tup_cell W.c1), bind_ok (tup_cell W.c2)]
      rfl
end
end Cr
set_option Elab.async false
set_option linter.all false
set_option maxRecDepth 100000
set_option maxHeartbeats 1000000
/-! _law_rounds, _law_any_mail, _law_letters. -/
namespace Cr
open PySem
/-! ### sorting -/
theorem mem_insI {x y : Int} : ∀ {l : List Int}, y ∈ insI x l ↔ y = x ∨ y ∈ l
  | [] => by simp [insI]
  | z :: r => by
    unfold insI
    split
    · simp
    · simp only [List.mem_cons, mem_insI (l := r)]
      constructor
      · rintro (h | h | h)
        · exact .inr (.inl h)
        · exact .inl h
        · exact .inr (.inr h)
      · rintro (h | h | h)
        · exact .inr (.inl h)
        · exact .inl h
        · exact .inr (.inr h)
theorem insI_up {x : Int} : ∀ {l : List Int}, l.Pairwise (· ≤ ·) → (insI x l).Pairwise (· ≤ ·)
  | [], _ => by simp [insI]
  | z :: r, h => by
    obtain ⟨h1, h2⟩ := List.pairwise_cons.mp h
    unfold insI
    split
    · rename_i hx
      refine List.pairwise_cons.mpr ⟨fun a ha => ?_, h⟩
      rcases List.mem_cons.mp ha with q | q
      · rw [q]; exact hx
      · exact Int.le_trans hx (h1 a q)
    · refine List.pairwise_cons.mpr ⟨fun a ha => ?_, insI_up h2⟩
      rcases mem_insI.mp ha with q | q
      · rw [q]; omega
      · exact h1 a q
theorem insI_length {x : Int} : ∀ {l : List Int}, (insI x l).length = l.length + 1
  | [] => rfl
  | z :: r => by
    unfold insI
    split
    · rfl
    · simp [insI_length (l := r)]
theorem sortI_up : ∀ l : List Int, (sortI l).Pairwise (· ≤ ·)
  | [] => .nil
  | x :: r => insI_up (sortI_up r)
theorem mem_sortI {y : Int} : ∀ {l : List Int}, y ∈ sortI l ↔ y ∈ l
  | [] => Iff.rfl
  | x :: r => by
    show y ∈ insI x (sortI r) ↔ _
    rw [mem_insI, mem_sortI (l := r), List.mem_cons]
theorem sortI_length : ∀ l : List Int, (sortI l).length = l.length
  | [] => rfl
  | x :: r => by
    show (insI x (sortI r)).length = _
    rw [insI_length, sortI_length r]
    rfl
theorem sorted_lst {l : List Int} : b_sorted false [.lst (l.map .int)] = pure (.lst ((sortI l).map .int)) := by
  show (match intsD (l.map .int) with | some l => newL false ((sortI l).map .int) | none => M.stuck : M D) = _
  rw [intsD_map]
  rfl
theorem tup_lst {l : List D} : b_tuple [.lst l] = pure (.tup l) := rfl
/-! ### rolls in a comprehension -/
theorem comp_rolls {body : D → M (Option D)} {n m : Nat} (hb : ∀ d h, Die n h → ∃ t c i, t < m ∧ body d h = .ok (some (.int (t : Nat))) (h.set n (.lst [.int c, .int i]))) : ∀ (l : List D) (h : AH), Die n h →
    ∃ (ts : List Nat) (c i : Int), compFix body l h = .ok (nats ts) (h.set n (.lst [.int c, .int i])) ∧ ts.length = l.length ∧ ∀ t ∈ ts, t < m
  | [], h, ⟨c, i, e⟩ => ⟨[], c, i, by rw [set_self e]; rfl, rfl, fun t ht => (by cases ht)⟩
  | d :: r, h, dh => by
    obtain ⟨t, c, i, ht, e⟩ := hb d h dh
    have hn : n < h.length := by
      obtain ⟨c, i, e⟩ := dh
      exact (List.getElem?_eq_some_iff.mp e).1
    obtain ⟨ts, c2, i2, e2, hl, hm⟩ := comp_rolls hb r (h.set n (.lst [.int c, .int i])) ⟨c, i, List.getElem?_set_self hn⟩
    refine ⟨t :: ts, c2, i2, ?_, by simp [hl], fun x hx => ?_⟩
    · show (body d >>= fun x => compFix body r >>= fun l => pure (match x with | some y => y :: l | none => l)) h = _
      rw [bind_ok e, bind_ok e2, List.set_set]
      rfl
    · rcases List.mem_cons.mp hx with q | q
      · rw [q]; exact ht
      · exact hm x q
theorem Keep.set {n : Nat} {h : AH} {c i : Int} (hn : n < h.length) : Keep n h (h.set n (.lst [.int c, .int i])) :=
  ⟨by simp, fun m hm hne => by rw [List.getElem?_set_ne (Ne.symm hne)], ⟨c, i, List.getElem?_set_self hn⟩⟩
theorem bF_for2 {I0 : Env → M ItK} {B : D → Env → AH → RS} {R : Env → AH → RS} {ρ ρ1 ρ2 : Env} {h h0 h1 h2 : AH} {a b : D} (e0 : I0 ρ h = .ok (.fix [a, b]) h0) (e1 : B a ρ h0 = .next ρ1 h1) (e2 : B b ρ1 h1 = .next ρ2 h2) :
    bodyF (seqS (fun ρ => liftE (I0 ρ) ρ fun it h => loopOf B it ρ h) R) ρ h = bodyF R ρ2 h2 := by
  unfold bodyF seqS liftE
  dsimp only
  rw [e0]
  dsimp only
  unfold loopOf forFix
  dsimp only
  rw [e1]
  dsimp only
  unfold forFix
  rw [e2]
  rfl
section
variable {P : Prog} {fl ms : List (Str × Str)} {k : Nat} (U : HDice P fl ms)
include U
/-- rolled anew: one side's row -/
theorem anew_turn {n L : Nat} {h : AH} {x1 x2 q6 : D} {q4 : Option D} {r s : List Int} {s0 s1 : Nat} {mail : D} {done : List D} (dh : Die n h) (hL : h[L]? = some (.lst done)) (hnL : n ≠ L) (hdl : done.length < 10) (i0 : idxM mail (.int s0) = pure (bunD r)) (i1 : idxM mail (.int s1) = pure (bunD s)) (hs : (1 : Int) - s0 = s1) (hsl : s.length ≤ 7) :
    ∃ (ts : List Nat) (c i : Int), turnS (stN 4) (L1__law_any_mail fl ms (run P (k + 2))) (.int s0) [some (.ref n), some x1, some x2, some (.ref L), q4, some mail, some q6, none] h =
      .next [some (.ref n), some x1, some x2, some (.ref L), some (.int s0), some mail, some q6, none] ((h.set n (.lst [.int c, .int i])).set L (.lst (done ++ [.tup ((sortI (ts.map fun (t : Nat) => (t : Int))).map .int)]))) ∧ ts.length = r.length ∧ ∀ t ∈ ts, t < s.length + 1 := by
  have hn : n < h.length := by
    obtain ⟨c, i, e⟩ := dh
    exact (List.getElem?_eq_some_iff.mp e).1
  obtain ⟨ts, c, i, e, hl, hm⟩ := comp_rolls (body := turnC (stN 7) (fun ρ => pure true) (fun ρ => getV ρ 0 >>= fun x => getV ρ 5 >>= fun y => getV ρ 4 >>= fun z => binM .Sub false (.int 1) z >>= fun z => idxM y z >>= fun y => b_len [y] >>= fun y => binM .Add false y (.int 1) >>= fun y => run P (k + 2) ("_law_roll", none) [x, y]) (wipeE [some (.ref n), some x1, some x2, some (.ref L), some (.int s0), some mail, some q6, none] [7])) (n := n) (m := s.length + 1) (fun d h' dh' => by
      obtain ⟨t, c, i, ht, e⟩ := roll_ok (k := k) U dh' (m := s.length + 1) (by omega) (by omega)
      refine ⟨t, c, i, ht, ?_⟩
      rw [turnC_eq]
      have e : run P (k + 2) ("_law_roll", none) [.ref n, .int ((s.length : Int) + 1)] h' = _ := e
      simp only [wipeE, stN_eq, pure_bind, bind_assoc, List.set_cons_zero, List.set_cons_succ, getV_0, getV_s, bin_sub, hs, i1, len_tup, List.length_map, bin_add, if_true]
      rw [bind_ok e]
      rfl) (r.map .int) h dh
  have e : compIt _ (.fix (r.map .int)) h = _ := e
  refine ⟨ts, c, i, ?_, by simpa using hl, hm⟩
  rw [turn_N]
  unfold L1__law_any_mail
  simp only [List.set_cons_zero, List.set_cons_succ]
  have c2 : (h.set n (.lst [.int c, .int i]))[L]? = some (.lst done) := by rw [List.getElem?_set_ne hnL]; exact hL
  have mo : (10 : Nat) < most := by decide
  rw [sq_expr (a := .non) (h' := (h.set n (.lst [.int c, .int i])).set L (.lst (done ++ [.tup ((sortI (ts.map fun (t : Nat) => (t : Int))).map .int)]))) ?e]
  case e =>
    simp only [getV_0, getV_s, pure_bind, bind_assoc, i0, it_tup]
    refine app_at hL (h1 := h.set n (.lst [.int c, .int i])) ?_ c2 (by omega)
    rw [bind_ok (nox_app (h' := h.set n (.lst [.int c, .int i])) (a := nats ts) e)]
    have z : nats ts = (ts.map fun (t : Nat) => (t : Int)).map D.int := by simp [nats]
    simp only [newL_f, pure_bind, z, sorted_lst, tup_lst]
    rfl
omit U in
theorem row_sorted {ts : List Nat} {m : Nat} (h : ∀ t ∈ ts, t < m + 1) : RowOk (sortI (ts.map fun (t : Nat) => (t : Int))) m := by
  refine ⟨sortI_up _, fun x hx => ?_⟩
  obtain ⟨t, ht, rfl⟩ := List.mem_map.mp (mem_sortI.mp hx)
  have := h t ht
  omega
theorem any_mail_ok (hW : P.has ("_law_written", none) 3 5 (S__law_written fl ms)) (hA : P.has ("_law_any_mail", none) 3 5 (S__law_any_mail fl ms)) {n : Nat} {h : AH} (dh : Die n h) {f0 s0' : Nat} (hf0 : f0 ≤ 7) (hs0 : s0' ≤ 7) :
    ∃ (A B : List Int) (h' : AH), run P (k + 4) ("_law_any_mail", none) [.ref n, .int f0, .int s0'] h = .ok (mailD A B) h' ∧ Keep n h h' ∧ IsMail A B ∧ A.length ≤ f0 ∧ B.length ≤ s0' := by
  show ∃ A B h', run P ((k + 3) + 1) _ _ h = _ ∧ _
  rw [hA (k + 3) _ rfl, bodyM_F]
  unfold S__law_any_mail
  obtain ⟨r0, r1, tl, h1, e1, K1, k0, k1, l0, l1⟩ := written_ok U (k := k) hW dh (f := f0) (s := s0') hf0 hs0
  have e1 : run P (k + 3) ("_law_written", none) [.ref n, .int f0, .int s0'] h = _ := e1
  obtain ⟨t, c, i, ht, e2⟩ := roll_ok (k := k + 1) U K1.die (m := 3) (by omega) (by omega)
  have e2 : run P (k + 3) ("_law_roll", none) [.ref n, .int 3] h1 = _ := e2
  have n1 : n < h1.length := by
    obtain ⟨c, i, e⟩ := K1.die
    exact (List.getElem?_eq_some_iff.mp e).1
  have K2 := K1.trans (Keep.set (c := c) (i := i) n1)
  simp only [List.map_cons, List.map_nil, List.replicate, List.cons_append, List.nil_append, bF_asg, bF_if, bF_assoc, bF_ret, bF_next, getV_0, getV_s, pure_bind, bind_assoc]
  rw [bind_ok e1, stT2, pure_bind]
  simp only [List.set_cons_zero, List.set_cons_succ, getV_0, getV_s, pure_bind, bind_assoc]
  rw [bind_ok e2, cmp_gt, pure_bind]
  by_cases h0 : (0 : Int) < t
  · rw [decide_eq_true h0, if_pos rfl]
    exact ⟨r0, r1, _, rfl, K2, ⟨k0.bund (by omega), k1.bund (by omega)⟩, l0, l1⟩
  · rw [decide_eq_false h0, if_neg (by decide)]
    generalize hh2 : h1.set n (.lst [.int c, .int i]) = h2 at *
    have al : dispM true [] h2 = .ok (.ref h2.length) (h2 ++ [.lst []]) := rfl
    rw [bind_ok al, stN_eq, pure_bind]
    simp only [List.set_cons_zero, List.set_cons_succ]
    have n2 : n < h2.length := Nat.lt_of_lt_of_le (by
      obtain ⟨c, i, e⟩ := dh
      exact (List.getElem?_eq_some_iff.mp e).1) K2.len
    obtain ⟨c3, i3, d3⟩ := K2.die
    have dh3 : Die n (h2 ++ [.lst []]) := ⟨c3, i3, by rw [List.getElem?_append_left n2]; exact d3⟩
    obtain ⟨ts, c4, i4, e4, hl4, hm4⟩ := anew_turn U (k := k + 1) (L := h2.length) (x1 := .int f0) (x2 := .int s0') (q6 := .tup (nats tl)) (q4 := none) (r := r0) (s := r1) (s0 := 0) (s1 := 1) (mail := mailD r0 r1) (done := []) dh3 (by simp) (by omega) (by simp) idx_t0 idx_t1 (by decide) (by omega)
    have d5 : Die n (((h2 ++ [Cell.lst []]).set n (.lst [.int c4, .int i4])).set h2.length (Cell.lst ([] ++ [D.tup ((sortI (ts.map fun (t : Nat) => (t : Int))).map .int)]))) := ⟨c4, i4, by
      rw [List.getElem?_set_ne (by omega), List.getElem?_set_self (by simp; omega)]⟩
    obtain ⟨us, c6, i6, e6, hl6, hm6⟩ := anew_turn U (k := k + 1) (L := h2.length) (x1 := .int f0) (x2 := .int s0') (q6 := .tup (nats tl)) (q4 := some (.int ((0 : Nat) : Int))) (r := r1) (s := r0) (s0 := 1) (s1 := 0) (mail := mailD r0 r1) d5 (by rw [List.getElem?_set_self (by simp)]) (by omega) (by simp) idx_t1 idx_t0 (by decide) (by omega)
    have er : (pure (.int 2) >>= fun x => rng1M x : M ItK) (h2 ++ [.lst []]) = .ok (.fix [.int ((0 : Nat) : Int), .int ((1 : Nat) : Int)]) (h2 ++ [.lst []]) := rfl
    rw [bF_for2 er e4 e6]
    simp only [bF_ret, getV_0, getV_s, pure_bind, bind_assoc]
    refine ⟨sortI (ts.map fun (t : Nat) => (t : Int)), sortI (us.map fun (t : Nat) => (t : Int)), ((((h2 ++ [Cell.lst []]).set n (.lst [.int c4, .int i4])).set h2.length (.lst ([] ++ [.tup ((sortI (ts.map fun (t : Nat) => (t : Int))).map .int)]))).set n (.lst [.int c6, .int i6])).set h2.length (.lst ([] ++ [.tup ((sortI (ts.map fun (t : Nat) => (t : Int))).map .int)] ++ [.tup ((sortI (us.map fun (t : Nat) => (t : Int))).map .int)])), ?_, ?_, ?_, ?_, ?_⟩
    · have ce : ∀ y : AH, h2.length < y.length → (y.set h2.length (.lst ([] ++ [.tup ((sortI (ts.map fun (t : Nat) => (t : Int))).map .int)] ++ [.tup ((sortI (us.map fun (t : Nat) => (t : Int))).map .int)])))[h2.length]? = some (.lst [.tup ((sortI (ts.map fun (t : Nat) => (t : Int))).map .int), .tup ((sortI (us.map fun (t : Nat) => (t : Int))).map .int)]) := fun y hy => by
        rw [List.getElem?_set_self hy]
        rfl
      have g0 : ∀ y : AH, h2.length < y.length → idxM (.ref h2.length) (.int 0) (y.set h2.length (.lst ([] ++ [.tup ((sortI (ts.map fun (t : Nat) => (t : Int))).map .int)] ++ [.tup ((sortI (us.map fun (t : Nat) => (t : Int))).map .int)]))) = .ok (.tup ((sortI (ts.map fun (t : Nat) => (t : Int))).map .int)) (y.set h2.length (.lst ([] ++ [.tup ((sortI (ts.map fun (t : Nat) => (t : Int))).map .int)] ++ [.tup ((sortI (us.map fun (t : Nat) => (t : Int))).map .int)]))) := fun y hy => idx_cell (i := 0) (ce y hy) rfl
      have g1 : ∀ y : AH, h2.length < y.length → idxM (.ref h2.length) (.int 1) (y.set h2.length (.lst ([] ++ [.tup ((sortI (ts.map fun (t : Nat) => (t : Int))).map .int)] ++ [.tup ((sortI (us.map fun (t : Nat) => (t : Int))).map .int)]))) = .ok (.tup ((sortI (us.map fun (t : Nat) => (t : Int))).map .int)) (y.set h2.length (.lst ([] ++ [.tup ((sortI (ts.map fun (t : Nat) => (t : Int))).map .int)] ++ [.tup ((sortI (us.map fun (t : Nat) => (t : Int))).map .int)]))) := fun y hy => idx_cell (i := 1) (ce y hy) rfl
      rw [bind_ok (g0 _ (by simp)), bind_ok (g1 _ (by simp))]
      rfl
    · refine K2.trans ⟨by simp, fun m hm hne => ?_, ⟨c6, i6, ?_⟩⟩
      · rw [List.getElem?_set_ne (by omega), List.getElem?_set_ne (Ne.symm hne), List.getElem?_set_ne (by omega), List.getElem?_set_ne (Ne.symm hne), List.getElem?_append_left hm]
      · rw [List.getElem?_set_ne (by omega), List.getElem?_set_self (by simp; omega)]
    · have la : (sortI (ts.map fun (t : Nat) => (t : Int))).length = r0.length := by rw [sortI_length, List.length_map, hl4]
      have lb : (sortI (us.map fun (t : Nat) => (t : Int))).length = r1.length := by rw [sortI_length, List.length_map, hl6]
      exact ⟨by rw [lb]; exact (row_sorted hm4).bund (by omega), by rw [la]; exact (row_sorted hm6).bund (by omega)⟩
    · rw [sortI_length, List.length_map, hl4]; exact l0
    · rw [sortI_length, List.length_map, hl6]; exact l1
end
end Cr
set_option Elab.async false
set_option linter.all false
set_option maxRecDepth 100000
set_option maxHeartbeats 1000000
/-! Rounds, letters, spots; counting. -/
namespace Cr
open PySem
/-! ### spots -/
def sp (s : Nat) : List Nat → Nat → List Nat
  | [], _ => []
  | x :: r, off => if x = s then off :: sp s r (off + 1) else sp s r (off + 1)
theorem sp_ge {s : Nat} : ∀ {l : List Nat} {off y : Nat}, y ∈ sp s l off → off ≤ y
  | [], _, _, h => by cases h
  | x :: r, off, y, h => by
    unfold sp at h
    split at h
    · rcases List.mem_cons.mp h with q | q
      · omega
      · have := sp_ge q; omega
    · have := sp_ge h; omega
theorem sp_path {A B : List Int} (hm : IsMail A B) (hb : barr A B = []) : ∀ (f i j : Nat), (A.length - i) + (B.length - j) = f → i ≤ A.length → j ≤ B.length →
    (sp 0 (path A B f i j) (i + j)).length = A.length - i ∧ (sp 1 (path A B f i j) (i + j)).length = B.length - j ∧
    ∀ I J, i ≤ I → I < A.length → j ≤ J → J < B.length → ∃ X Y, (sp 0 (path A B f i j) (i + j))[I - i]? = some X ∧ (sp 1 (path A B f i j) (i + j))[J - j]? = some Y ∧ ((I : Int) < B.getD J 0 → X < Y) ∧ ((J : Int) < A.getD I 0 → ¬ X < Y) := by
  intro f
  induction f with
  | zero =>
    intro i j hf hi hj
    refine ⟨?_, ?_, fun I J h1 h2 h3 h4 => by omega⟩
    · show ([] : List Nat).length = _
      simp; omega
    · show ([] : List Nat).length = _
      simp; omega
  | succ f ih =>
    intro i j hf hi hj
    have hne : (i, j) ≠ (A.length, B.length) := fun z => by
      cases z
      omega
    cases m0 : may0 A i j with
    | true =>
      have hp : path A B (f + 1) i j = 0 :: path A B f (i + 1) j := by
        show (if may0 A i j then _ else _) = _
        rw [if_pos m0]
      unfold may0 at m0
      simp at m0
      obtain ⟨q1, q2, q3⟩ := ih (i + 1) j (by omega) (by omega) hj
      have e0 : sp 0 (path A B (f + 1) i j) (i + j) = (i + j) :: sp 0 (path A B f (i + 1) j) (i + 1 + j) := by
        rw [hp]
        show (if 0 = 0 then _ else _) = _
        rw [if_pos rfl]
        congr 2
        omega
      have e1 : sp 1 (path A B (f + 1) i j) (i + j) = sp 1 (path A B f (i + 1) j) (i + 1 + j) := by
        rw [hp]
        show (if 0 = 1 then _ else _) = _
        rw [if_neg (by decide)]
        congr 1
        omega
      rw [e0, e1]
      refine ⟨by simp [q1]; omega, q2, fun I J h1 h2 h3 h4 => ?_⟩
      by_cases hI : I = i
      · subst hI
        have hl : J - j < (sp 1 (path A B f (I + 1) j) (I + 1 + j)).length := by rw [q2]; omega
        refine ⟨I + j, _, by simp, List.getElem?_eq_getElem hl, fun _ => ?_, fun h => ?_⟩
        · have := sp_ge (List.getElem_mem hl)
          omega
        · have := m0.2
          simp only [List.getD_eq_getElem?_getD] at h
          omega
      · obtain ⟨X, Y, x1, x2, x3, x4⟩ := q3 I J (by omega) h2 h3 h4
        have : I - i = (I - (i + 1)) + 1 := by omega
        exact ⟨X, Y, by rw [this]; simpa using x1, x2, x3, x4⟩
    | false =>
      have m1 : may0 B j i = true := (may_one hm hb hi hj hne).resolve_left (by rw [m0]; decide)
      have hp : path A B (f + 1) i j = 1 :: path A B f i (j + 1) := by
        show (if may0 A i j then _ else _) = _
        rw [if_neg (by rw [m0]; decide)]
      unfold may0 at m1
      simp at m1
      obtain ⟨q1, q2, q3⟩ := ih i (j + 1) (by omega) hi (by omega)
      have e0 : sp 0 (path A B (f + 1) i j) (i + j) = sp 0 (path A B f i (j + 1)) (i + (j + 1)) := by
        rw [hp]
        show (if 1 = 0 then _ else _) = _
        rw [if_neg (by decide)]
        rfl
      have e1 : sp 1 (path A B (f + 1) i j) (i + j) = (i + j) :: sp 1 (path A B f i (j + 1)) (i + (j + 1)) := by
        rw [hp]
        show (if 1 = 1 then _ else _) = _
        rw [if_pos rfl]
        rfl
      rw [e0, e1]
      refine ⟨q1, by simp [q2]; omega, fun I J h1 h2 h3 h4 => ?_⟩
      by_cases hJ : J = j
      · subst hJ
        have hl : I - i < (sp 0 (path A B f i (J + 1)) (i + (J + 1))).length := by rw [q1]; omega
        refine ⟨_, i + J, List.getElem?_eq_getElem hl, by simp, fun h => ?_, fun _ => ?_⟩
        · have := m1.2
          simp only [List.getD_eq_getElem?_getD] at h
          omega
        · have := sp_ge (List.getElem_mem hl)
          omega
      · obtain ⟨X, Y, x1, x2, x3, x4⟩ := q3 I J h1 h2 (by omega) h4
        have : J - j = (J - (j + 1)) + 1 := by omega
        exact ⟨X, Y, x1, by rw [this]; simpa using x2, x3, x4⟩
/-! ### counting -/
theorem filter_add {β : Type} (p q r : β → Bool) (h : ∀ b, (p b = true ∧ q b = false ∧ r b = false) ∨ (p b = false ∧ q b = true ∧ r b = false) ∨ (p b = false ∧ q b = false ∧ r b = true)) : ∀ l : List β, (l.filter p).length + ((l.filter q).length + (l.filter r).length) = l.length
  | [] => rfl
  | b :: l => by
    have ih := filter_add p q r h l
    rcases h b with ⟨h1, h2, h3⟩ | ⟨h1, h2, h3⟩ | ⟨h1, h2, h3⟩ <;> (simp only [List.filter_cons, h1, h2, h3, if_true, Bool.false_eq_true, if_false, List.length_cons]; omega)
theorem filter_add' {β : Type} (p q r : β → Bool) : ∀ l : List β, (∀ b ∈ l, (p b = true ∧ q b = false ∧ r b = false) ∨ (p b = false ∧ q b = true ∧ r b = false) ∨ (p b = false ∧ q b = false ∧ r b = true)) → (l.filter p).length + ((l.filter q).length + (l.filter r).length) = l.length
  | [], _ => rfl
  | b :: l, h => by
    have ih := filter_add' p q r l fun c hc => h c (List.mem_cons_of_mem _ hc)
    rcases h b List.mem_cons_self with ⟨h1, h2, h3⟩ | ⟨h1, h2, h3⟩ | ⟨h1, h2, h3⟩ <;> (simp only [List.filter_cons, h1, h2, h3, if_true, Bool.false_eq_true, if_false, List.length_cons]; omega)
def rowN (A : List Int) (n i : Nat) : Nat := ((List.range n).filter fun (j : Nat) => decide ((j : Int) < A.getD i 0)).length
/-- pairs (i, j) where i had read j, row by row -/
theorem rows_sum {A : List Int} {n : Nat} : ∀ m, ((prs m n).filter fun p => decide ((p.2 : Int) < A.getD p.1 0)).length = ((List.range m).map (rowN A n)).sum
  | 0 => rfl
  | m + 1 => by
    rw [prs_succ, List.filter_append, List.length_append, rows_sum m, List.range_succ, List.map_append, List.sum_append]
    congr 1
    simp only [List.map_cons, List.map_nil, List.sum_cons, List.sum_nil, Nat.add_zero]
    rw [List.filter_map, List.length_map]
    rfl
theorem sum_zip_add : ∀ (l : List Nat) (f g : Nat → Nat), (l.map fun x => f x + g x).sum = (l.map f).sum + (l.map g).sum
  | [], _, _ => rfl
  | x :: l, f, g => by
    simp only [List.map_cons, List.sum_cons, sum_zip_add l f g]
    omega
theorem filter_sum (p : Nat → Bool) : ∀ l : List Nat, (l.filter p).length = (l.map fun x => if p x then 1 else 0).sum
  | [] => rfl
  | x :: l => by
    have ih := filter_sum p l
    cases q : p x <;> simp [List.filter_cons, q, ih, Nat.add_comm]
/-- .. column by column -/
theorem cols_sum {B : List Int} {n : Nat} : ∀ m, ((prs m n).filter fun p => decide ((p.1 : Int) < B.getD p.2 0)).length = ((List.range n).map (rowN B m)).sum
  | 0 => by
    have e : (List.range n).map (rowN B 0) = (List.range n).map fun _ => 0 := List.map_congr_left fun x _ => rfl
    rw [e]
    show 0 = _
    clear e
    induction n with
    | zero => rfl
    | succ n ih => rw [List.range_succ, List.map_append, List.sum_append]; simpa using ih
  | m + 1 => by
    rw [prs_succ, List.filter_append, List.length_append, cols_sum m, List.filter_map, List.length_map]
    have e : (List.range n).map (rowN B (m + 1)) = (List.range n).map fun j => rowN B m j + if decide ((m : Int) < B.getD j 0) then 1 else 0 := by
      refine List.map_congr_left fun j _ => ?_
      unfold rowN
      rw [List.range_succ, List.filter_append, List.length_append]
      congr 1
      simp only [List.filter_cons, List.filter_nil]
      cases decide ((m : Int) < B.getD j 0) <;> rfl
    rw [e, sum_zip_add]
    congr 1
    exact filter_sum (fun j => decide ((m : Int) < B.getD j 0)) _
theorem ties_all {A B : List Int} (hb : barr A B = []) : (crss A B).length + (((List.range A.length).map (rowN A B.length)).sum + ((List.range B.length).map (rowN B A.length)).sum) = A.length * B.length := by
  rw [← rows_sum, ← cols_sum, ← prs_length]
  unfold crss
  refine filter_add' _ _ _ _ fun p hp => ?_
  have nb : barB A B p = false := by
    cases q : barB A B p with
    | false => rfl
    | true =>
      have : p ∈ barr A B := List.mem_filter.mpr ⟨hp, q⟩
      rw [hb] at this
      cases this
  unfold barB at nb
  unfold crsB
  by_cases h1 : (p.2 : Int) < A.getD p.1 0 <;> by_cases h2 : (p.1 : Int) < B.getD p.2 0
  · rw [decide_eq_true h1, decide_eq_true h2] at nb
    cases nb
  · refine .inr (.inl ⟨?_, decide_eq_true h1, decide_eq_false h2⟩)
    rw [decide_eq_false (show ¬ A.getD p.1 0 ≤ (p.2 : Int) by omega)]
    rfl
  · refine .inr (.inr ⟨?_, decide_eq_false h1, decide_eq_true h2⟩)
    rw [decide_eq_false (show ¬ B.getD p.2 0 ≤ (p.1 : Int) by omega), Bool.and_false]
  · refine .inl ⟨?_, decide_eq_false h1, decide_eq_false h2⟩
    rw [decide_eq_true (show A.getD p.1 0 ≤ (p.2 : Int) by omega), decide_eq_true (show B.getD p.2 0 ≤ (p.1 : Int) by omega)]
    rfl
/-! ### unread -/
theorem maxF_le {x m : Int} : ∀ {l : List Int}, maxF x l ≤ m ↔ x ≤ m ∧ ∀ y ∈ l, y ≤ m := by
  intro l
  induction l generalizing x with
  | nil => simp [maxF]
  | cons z r ih =>
    have e : maxF x (z :: r) = maxF (if x < z then z else x) r := rfl
    rw [e, ih]
    constructor
    · rintro ⟨h1, h2⟩
      split at h1
      · refine ⟨by omega, fun y hy => ?_⟩
        rcases List.mem_cons.mp hy with q | q
        · rw [q]; exact h1
        · exact h2 y q
      · refine ⟨h1, fun y hy => ?_⟩
        rcases List.mem_cons.mp hy with q | q
        · rw [q]; omega
        · exact h2 y q
    · rintro ⟨h1, h2⟩
      have := h2 z List.mem_cons_self
      refine ⟨by split <;> omega, fun y hy => h2 y (List.mem_cons_of_mem _ hy)⟩
theorem maxD_le {B : List Int} {m : Int} (h0 : 0 ≤ m) : maxD B ≤ m ↔ ∀ y ∈ B, y ≤ m := by
  cases B with
  | nil => simpa [maxD] using h0
  | cons x r =>
    show maxF x r ≤ m ↔ _
    rw [maxF_le]
    simp
theorem maxD_nn {B : List Int} {m : Int} (h : ∀ y ∈ B, 0 ≤ y ∧ y ≤ m) (h0 : 0 ≤ m) : 0 ≤ maxD B ∧ maxD B ≤ m := by
  refine ⟨?_, (maxD_le h0).mpr fun y hy => (h y hy).2⟩
  cases B with
  | nil => exact Int.le_refl _
  | cons x r =>
    have q : maxF x r ≤ maxF x r := Int.le_refl _
    have := (maxF_le.mp q).1
    have := (h x List.mem_cons_self).1
    show 0 ≤ maxF x r
    omega
theorem range_ge {M : Nat} : ∀ m, M ≤ m → ((List.range m).filter fun a => decide (M ≤ a)).length = m - M
  | 0, h => by simp
  | m + 1, h => by
    rw [List.range_succ, List.filter_append, List.length_append]
    by_cases hm : M ≤ m
    · rw [range_ge m hm]
      simp [List.filter_cons, hm]
      omega
    · have hz : ((List.range m).filter fun a => decide (M ≤ a)) = [] := by
        rw [List.filter_eq_nil_iff]
        intro a ha
        have := List.mem_range.mp ha
        simp
        omega
      rw [hz]
      simp [List.filter_cons, hm]
      omega
theorem unread_cnt {A B : List Int} (h : ∀ y ∈ B, 0 ≤ y ∧ y ≤ (A.length : Int)) : ((((List.range A.length).filter fun (a : Nat) => decide (B.filter (fun y => decide ((a : Int) < y)) = [])).length : Nat) : Int) = (A.length : Int) - maxD B := by
  obtain ⟨m0, m1⟩ := maxD_nn h (by omega)
  obtain ⟨M, hM⟩ : ∃ M : Nat, maxD B = M := ⟨(maxD B).toNat, by omega⟩
  have e : ((List.range A.length).filter fun (a : Nat) => decide (B.filter (fun y => decide ((a : Int) < y)) = [])) = (List.range A.length).filter fun a => decide (M ≤ a) := by
    refine List.filter_congr fun a _ => ?_
    have q : (B.filter (fun y => decide ((a : Int) < y)) = []) ↔ M ≤ a := by
      rw [List.filter_eq_nil_iff]
      constructor
      · intro z
        have := (maxD_le (B := B) (m := (a : Int)) (by omega)).mpr fun y hy => by
          have := z y hy
          simp at this
          exact this
        omega
      · intro z y hy
        have := (maxD_le (B := B) (m := (a : Int)) (by omega)).mp (by omega) y hy
        simp
        exact this
    simp only [q]
  rw [e, range_ge _ (by omega), hM]
  omega
end Cr
set_option Elab.async false
set_option linter.all false
set_option maxRecDepth 100000
set_option maxHeartbeats 1000000
/-! _law_rounds, _law_letters, _law_spot. -/
namespace Cr
open PySem
theorem comp_alloc {body : D → M (Option D)} (hb : ∀ (i : Nat) (h : AH), ∃ c, body (.int i) h = .ok (some (.ref h.length)) (h ++ [.lst [.int c, .int 0]])) : ∀ (l : List Nat) (h : AH),
    ∃ cs : List Int, compFix body (nats l) h = .ok ((List.range l.length).map fun i => .ref (h.length + i)) (h ++ cs.map fun c => .lst [.int c, .int 0]) ∧ cs.length = l.length
  | [], h => ⟨[], by simp; rfl, rfl⟩
  | i :: l, h => by
    obtain ⟨c, e⟩ := hb i h
    obtain ⟨cs, e2, hl⟩ := comp_alloc hb l (h ++ [.lst [.int c, .int 0]])
    refine ⟨c :: cs, ?_, by simp [hl]⟩
    show (body (.int i) >>= fun x => compFix body (nats l) >>= fun l => pure (match x with | some y => y :: l | none => l)) h = _
    rw [bind_ok e, bind_ok e2]
    show Cr.R.ok _ _ = Cr.R.ok _ _
    congr 1
    · show D.ref h.length :: (List.range l.length).map (fun i => D.ref ((h ++ [Cell.lst [.int c, .int 0]]).length + i)) = _
      rw [List.length_cons, List.range_succ_eq_map, List.map_cons, List.map_map]
      congr 1
      refine List.map_congr_left fun j _ => ?_
      show D.ref ((h ++ [Cell.lst [.int c, .int 0]]).length + j) = D.ref (h.length + (j + 1))
      congr 1
      simp
      omega
    · simp
section
variable {P : Prog} {fl ms : List (Str × Str)} {k : Nat} {A B : List Int}
theorem rounds_ok (U : HDice P fl ms) {ns : List Int} (hl : ns.length ≤ 63) {hi : Nat} (h1 : 1 ≤ hi) (h2 : hi ≤ 10) : ∃ (c : Nat) (h' : AH), run P (k + 2) ("_law_rounds", none) [.scr ns, .int hi] [] = .ok (.lst ((List.range c).map fun i => .ref i)) h' ∧ h'.length = c ∧ ∀ i, i < c → Die i h' := by
  show ∃ c h', run P ((k + 1) + 1) _ _ [] = _ ∧ _
  rw [U.rounds (k + 1) _ rfl, bodyM_F]
  unfold S__law_rounds
  have ln : b_len [.scr ns] = pure (.int ns.length) := rfl
  have mn : b_min [.int hi, .int ns.length] = pure (.int (if (ns.length : Int) < hi then ns.length else hi)) := rfl
  have mx : ∀ x : Int, b_max [.int 1, .int x] = pure (.int (if x > 1 then x else 1)) := fun x => rfl
  obtain ⟨c, hc⟩ : ∃ c : Nat, (if (if (ns.length : Int) < hi then (ns.length : Int) else hi) > 1 then (if (ns.length : Int) < hi then (ns.length : Int) else hi) else 1) = c := ⟨(if (if (ns.length : Int) < hi then (ns.length : Int) else hi) > 1 then (if (ns.length : Int) < hi then (ns.length : Int) else hi) else 1).toNat, by split <;> (try split) <;> omega⟩
  have hcl : c ≤ 1000000 := by
    have : (c : Int) ≤ 1000000 := by rw [← hc]; split <;> (try split) <;> omega
    omega
  simp only [List.map_cons, List.map_nil, List.replicate, List.cons_append, List.nil_append, bF_ret, getV_0, getV_s, pure_bind, bind_assoc, ln, mn, mx, hc, rng_nat hcl]
  obtain ⟨cs, e, hcs⟩ := comp_alloc (body := turnC (stN 2) (fun ρ => pure true) (fun ρ => getV ρ 0 >>= fun x => getV ρ 2 >>= fun y => run P (k + 1) ("_law_cell", none) [x, y] >>= fun x => dispM true [x, .int 0]) (wipeE [some (.scr ns), some (.int hi), none] [2])) (fun i h => by
    obtain ⟨c, e⟩ := cell_ok (k := k) U.cell hl i
    refine ⟨c, ?_⟩
    rw [turnC_eq]
    simp only [wipeE, stN_eq, pure_bind, bind_assoc, List.set_cons_zero, List.set_cons_succ, getV_0, getV_s, e, if_true]
    rfl) (List.range c) []
  have e : compIt _ (.fix ((List.range c).map fun (k : Nat) => .int k)) [] = _ := e
  rw [bind_ok (nox_app e)]
  have hl2 : cs.length = c := hcs.trans (List.length_range)
  refine ⟨c, cs.map fun c => .lst [.int c, .int 0], ?_, by rw [List.length_map]; exact hl2, fun i hi => ?_⟩
  · show Cr.R.ok _ _ = _
    simp
  · refine ⟨cs.getD i 0, 0, ?_⟩
    have : i < cs.length := by rw [hl2]; exact hi
    simp [this]
/-! ### letters -/
def lets (m n : Nat) : List (Nat × Nat) := ((List.range m).map fun i => (0, i)) ++ (List.range n).map fun j => (1, j)
theorem letters_eq (hL : P.has ("_law_letters", none) 1 1 (S__law_letters fl ms)) (ha : A.length ≤ 7) (hb : B.length ≤ 7) : run P (k + 1) ("_law_letters", none) [mailD A B] = pure (.lst ((lets A.length B.length).map prD)) := by
  rw [hL k _ rfl, bodyM_F]
  unfold S__law_letters
  simp only [List.map_cons, List.map_nil, List.replicate, List.cons_append, List.nil_append, bF_ret, getV_0, getV_s, pure_bind, bind_assoc, idx_t0, idx_t1, len_tup, List.length_map, rng_nat (n := A.length) (by omega), rng_nat (n := B.length) (by omega)]
  rw [comp_of (l := List.range A.length) (f := fun (k : Nat) => D.int k) (F := prD) (g := fun i => (0, i)), comp_of (l := List.range B.length) (f := fun (k : Nat) => D.int k) (F := prD) (g := fun i => (1, i))]
  · simp only [nox_pure, newL_f, pure_bind]
    rw [add_lst (by simp; have : most = 1000000 := rfl; omega)]
    simp [lets]
  · intro j hj
    rw [turnC_eq]
    simp [wipeE]
    rfl
  · intro j hj
    rw [turnC_eq]
    simp [wipeE]
    rfl
theorem mem_lets {m n : Nat} {p : Nat × Nat} (h : p ∈ lets m n) : (p.1 = 0 ∧ p.2 < m) ∨ (p.1 = 1 ∧ p.2 < n) := by
  unfold lets at h
  rcases List.mem_append.mp h with q | q
  · obtain ⟨i, hi, rfl⟩ := List.mem_map.mp q
    exact .inl ⟨rfl, List.mem_range.mp hi⟩
  · obtain ⟨i, hi, rfl⟩ := List.mem_map.mp q
    exact .inr ⟨rfl, List.mem_range.mp hi⟩
/-! ### spots -/
def enu : Nat → List Nat → List (Nat × Nat)
  | _, [] => []
  | k, x :: r => (k, x) :: enu (k + 1) r
theorem enumL_nats : ∀ (k : Nat) (l : List Nat), enumL k (nats l) = (enu k l).map prD
  | _, [] => rfl
  | k, x :: r => by
    show D.tup [.int k, .int x] :: enumL (k + 1) (nats r) = prD (k, x) :: (enu (k + 1) r).map prD
    rw [enumL_nats (k + 1) r]
    rfl
theorem enu_sp {s : Nat} : ∀ (k : Nat) (l : List Nat), ((enu k l).filter fun p => decide (p.2 = s)).map (·.1) = sp s l k
  | _, [] => rfl
  | k, x :: r => by
    have ih := enu_sp (s := s) (k + 1) r
    unfold enu sp
    by_cases h : x = s
    · rw [if_pos h, List.filter_cons, if_pos (by simpa using h), List.map_cons, ih]
    · rw [if_neg h, List.filter_cons, if_neg (by simpa using h), ih]
theorem spot_eq (hS : P.has ("_law_spot", none) 2 3 (S__law_spot fl ms)) {tl : List Nat} {s i X : Nat} (hx : (sp s tl 0)[i]? = some X) : run P (k + 1) ("_law_spot", none) [.tup (nats tl), prD (s, i)] = pure (.int X) := by
  rw [hS k _ rfl, bodyM_F]
  unfold S__law_spot
  have en : enumM (.tup (nats tl)) = pure (.fix ((enu 0 tl).map prD)) := by
    show (pure (.fix (enumL 0 (nats tl))) : M ItK) = _
    rw [enumL_nats]
  simp only [List.map_cons, List.map_nil, List.replicate, List.cons_append, List.nil_append, bF_asg, bF_ret, getV_0, getV_s, pure_bind, bind_assoc, en]
  rw [comp_if (l := enu 0 tl) (f := prD) (F := fun (x : Nat) => D.int x) (g := fun p => p.1) (t := fun p => decide (p.2 = s))]
  · rw [enu_sp]
    simp only [nox_pure, newL_f, pure_bind, stN_eq, List.set_cons_zero, List.set_cons_succ, getV_0, getV_s, prD, idx_t1]
    rw [idx_lst (l := (sp s tl 0).map fun (x : Nat) => D.int x) (d := .int X) (by rw [List.getElem?_map, hx]; rfl)]
  · intro p hp
    rw [turnC_eq]
    simp only [wipeE, stT2, pure_bind, List.set_cons_zero, List.set_cons_succ, getV_0, getV_s, prD, idx_t0, cmp_eq, Int.natCast_inj]
    cases decide (p.2 = s) <;> rfl
end
end Cr
set_option Elab.async false
set_option linter.all false
set_option maxRecDepth 100000
set_option maxHeartbeats 1000000
/-! Orders by numbers; letters by pairs; what was seen. -/
namespace Cr
open PySem
/-! ### sides -/
def bun (A B : List Int) (s : Nat) : List Int := if s = 0 then A else B
theorem lets_two {m n : Nat} {p : Nat × Nat} (h : p ∈ lets m n) : p.1 < 2 := by
  rcases mem_lets h with h | h <;> omega
theorem mem_lets' {A B : List Int} {p : Nat × Nat} (h : p ∈ lets A.length B.length) : p.1 < 2 ∧ p.2 < (bun A B p.1).length := by
  rcases mem_lets h with ⟨h1, h2⟩ | ⟨h1, h2⟩
  · rw [h1]; exact ⟨by decide, h2⟩
  · rw [h1]; exact ⟨by decide, h2⟩
theorem lets_of {A B : List Int} {p : Nat × Nat} (h1 : p.1 < 2) (h2 : p.2 < (bun A B p.1).length) : p ∈ lets A.length B.length := by
  obtain ⟨s, i⟩ := p
  match s, h1 with
  | 0, _ => exact List.mem_append_left _ (List.mem_map.mpr ⟨i, List.mem_range.mpr h2, rfl⟩)
  | 1, _ => exact List.mem_append_right _ (List.mem_map.mpr ⟨i, List.mem_range.mpr h2, rfl⟩)
theorem idx_mail {A B : List Int} {s : Nat} (h : s < 2) : idxM (mailD A B) (.int (s : Int)) = pure (bunD (bun A B s)) := by
  match s, h with
  | 0, _ => exact idx_t0
  | 1, _ => exact idx_t1
theorem idx_other {A B : List Int} {s : Nat} (h : s < 2) : idxM (mailD A B) (.int (1 - (s : Int))) = pure (bunD (bun A B (1 - s))) := by
  match s, h with
  | 0, _ => exact idx_t1
  | 1, _ => exact idx_t0
theorem idx_pr0 {p : Nat × Nat} : idxM (prD p) (.int 0) = pure (.int p.1) := idx_t0
theorem idx_pr1 {p : Nat × Nat} : idxM (prD p) (.int 1) = pure (.int p.2) := idx_t1
theorem cut_take {β : Type} {l : List β} {n : Nat} : cut l none (some (n : Int)) = l.take n := by
  unfold cut loI hiI clampI
  simp
theorem slice_to {X : List Int} {i : Int} (h : 0 ≤ i) : sliceM false (bunD X) none (some i) = pure (bunD (X.take i.toNat)) := by
  show (pure (D.tup (cut (X.map D.int) none (some i))) : M D) = _
  obtain ⟨n, rfl⟩ := Int.eq_ofNat_of_zero_le h
  rw [cut_take]
  simp [bunD, List.map_take]
theorem okL_pr {p : Nat × Nat} : okL (prD p) := ⟨rfl, fun l e => by cases e; rfl⟩
theorem let_lets {A B : List Int} {p : Nat × Nat} (h : p ∈ lets A.length B.length) : letB A.length B.length (prD p) = true := by
  obtain ⟨s, i⟩ := p
  rcases mem_lets h with ⟨h1, h2⟩ | ⟨h1, h2⟩
  · have h1 : s = 0 := h1
    subst h1
    show whoB (.int i) 0 ((A.length : Int) - 1) = true
    simp [whoB]
    omega
  · have h1 : s = 1 := h1
    subst h1
    show whoB (.int i) 0 ((B.length : Int) - 1) = true
    simp [whoB]
    omega
def hrB (A B : List Int) (p q : Nat × Nat) : Bool := !decide (p.1 = q.1) && decide ((q.2 : Int) < (bun A B p.1).getD p.2 0)
structure HRead (P : Prog) (fl ms : List (Str × Str)) : Prop where
  has_read : P.has ("has_read", none) 3 0 (S_has_read fl ms)
  had_read : P.has ("had_read", none) 3 0 (S_had_read fl ms)
section
variable {P : Prog} {fl ms : List (Str × Str)} {k : Nat} {A B : List Int}
theorem need_letter_ok (Mh : HMail P fl ms) (L : HLet P fl ms) {p : Nat × Nat} (hp : p ∈ lets A.length B.length) : run P (k + 3) ("need_letter", none) [mailD A B, prD p] = pure .non := by
  rw [need_letter_D Mh L okL_pr, List.length_map, List.length_map, let_lets hp]
  rfl
theorem need_letter_bad (Mh : HMail P fl ms) (L : HLet P fl ms) {d : D} (h : okL d) (hb : letB A.length B.length d = false) : run P (k + 3) ("need_letter", none) [mailD A B, d] = M.raise "BadLetter" := by
  rw [need_letter_D Mh L h, List.length_map, List.length_map, hb]
  rfl
theorem has_read_eq (hR : P.has ("has_read", none) 3 0 (S_has_read fl ms)) {p q : Nat × Nat} (hp : p ∈ lets A.length B.length) : run P (k + 1) ("has_read", none) [mailD A B, prD p, prD q] = pure (.bl (hrB A B p q)) := by
  obtain ⟨h1, h2⟩ := mem_lets' hp
  rw [hR k _ rfl, bodyM_F]
  funext h
  unfold S_has_read hrB
  simp only [sx_asg, sx_expr, sx_if, sx_ret, sx_retN, sx_raise, sx_for, sx_while, sx_next, sx_seq, sx_turnN, sx_turn, loop_fix, bind_at, pure_at, raise_at, andM_ok, andM_exc, andR_ok, andR_exc, andS_next, andS_ret, andS_exc, endR_next, endR_ret, endR_exc, end_at, toldR_ok, told_at, pure_bind, bind_assoc, getV_0, getV_s, stN_eq, stT2, stT3, stT_pr, List.set_cons_zero, List.set_cons_succ, List.map_cons, List.map_nil, List.replicate, List.cons_append, List.nil_append, List.append_nil, tupM_0, tupM_1, tupM_2, tupM_3, dispM_0, newL_f, asBool_bl, part_int, neg_int, cmp_lt, cmp_le, cmp_gt, cmp_ge, cmp_eq, cmp_ne, bin_add, bin_sub, len_tup, len_lst, idx_t0, idx_t1, idx_l0, idx_l1, it_tup, it_lst, ↓reduceIte, Bool.false_eq_true, Bool.not_true, Bool.not_false, decide_true, decide_false, idx_pr0, idx_pr1, idx_mail h1, idx_bun h2, Int.natCast_inj]
  by_cases e : p.1 = q.1 <;> simp [e, pure_at]
theorem had_read_eq (Mh : HMail P fl ms) (L : HLet P fl ms) (R : HRead P fl ms) (hm : IsMail A B) {p q : Nat × Nat} (hp : p ∈ lets A.length B.length) (hq : q ∈ lets A.length B.length) : run P (k + 5) ("had_read", none) [mailD A B, prD p, prD q] = pure (.bl (hrB A B p q)) := by
  show run P ((k + 4) + 1) _ _ = _
  rw [R.had_read (k + 4) _ rfl, bodyM_F]
  funext h
  unfold S_had_read
  simp only [sx_asg, sx_expr, sx_if, sx_ret, sx_retN, sx_raise, sx_for, sx_while, sx_next, sx_seq, sx_turnN, sx_turn, loop_fix, bind_at, pure_at, raise_at, andM_ok, andM_exc, andR_ok, andR_exc, andS_next, andS_ret, andS_exc, endR_next, endR_ret, endR_exc, end_at, toldR_ok, told_at, pure_bind, bind_assoc, getV_0, getV_s, stN_eq, stT2, stT3, stT_pr, List.set_cons_zero, List.set_cons_succ, List.map_cons, List.map_nil, List.replicate, List.cons_append, List.nil_append, List.append_nil, tupM_0, tupM_1, tupM_2, tupM_3, dispM_0, newL_f, asBool_bl, part_int, neg_int, cmp_lt, cmp_le, cmp_gt, cmp_ge, cmp_eq, cmp_ne, bin_add, bin_sub, len_tup, len_lst, idx_t0, idx_t1, idx_l0, idx_l1, it_tup, it_lst, ↓reduceIte, Bool.false_eq_true, Bool.not_true, Bool.not_false, decide_true, decide_false, need_mail_ok Mh hm, need_letter_ok Mh L (k := k + 1) hp, need_letter_ok Mh L (k := k + 1) hq, has_read_eq R.has_read (k := k + 3) hp]
theorem need_there_eq (W : HBar P fl ms) (hN : P.has ("need_there", none) 1 0 (S_need_there fl ms)) (ha : A.length ≤ 7) (hb : B.length ≤ 7) : run P (k + 4) ("need_there", none) [mailD A B] = if barr A B = [] then pure .non else M.raise "Nothing" := by
  show run P ((k + 3) + 1) _ _ = _
  rw [hN (k + 3) _ rfl, bodyM_F]
  funext h
  unfold S_need_there
  simp only [sx_asg, sx_expr, sx_if, sx_ret, sx_retN, sx_raise, sx_for, sx_while, sx_next, sx_seq, sx_turnN, sx_turn, loop_fix, bind_at, pure_at, raise_at, andM_ok, andM_exc, andR_ok, andR_exc, andS_next, andS_ret, andS_exc, endR_next, endR_ret, endR_exc, end_at, toldR_ok, told_at, pure_bind, bind_assoc, getV_0, getV_s, stN_eq, stT2, stT3, stT_pr, List.set_cons_zero, List.set_cons_succ, List.map_cons, List.map_nil, List.replicate, List.cons_append, List.nil_append, List.append_nil, tupM_0, tupM_1, tupM_2, tupM_3, dispM_0, newL_f, asBool_bl, part_int, neg_int, cmp_lt, cmp_le, cmp_gt, cmp_ge, cmp_eq, cmp_ne, bin_add, bin_sub, len_tup, len_lst, idx_t0, idx_t1, idx_l0, idx_l1, it_tup, it_lst, ↓reduceIte, Bool.false_eq_true, Bool.not_true, Bool.not_false, decide_true, decide_false, is_there_eq W ha hb]
  by_cases e : barr A B = [] <;> simp [e, sx_raise, endR, pure_at, raise_at]
/-! ### orders -/
theorem how_many_eq (Mh : HMail P fl ms) (V : HWays P fl ms) (hC : P.has ("count_of", none) 1 0 (S_count_of fl ms)) (hH : P.has ("how_many", none) 1 0 (S_how_many fl ms)) (hm : IsMail A B) {h : AH} : ∃ x, run P (k + 18) ("how_many", none) [mailD A B] h = .ok (.int (ordsAt A B 0 0).length) (h ++ x) := by
  show ∃ x, run P ((k + 17) + 1) _ _ h = _
  rw [hH (k + 17) _ rfl, bodyM_F]
  obtain ⟨x, e⟩ := count_of_eq V hC (k := k) hm.la hm.lb (h := h)
  rw [← ords_cnt] at e
  refine ⟨x, ?_⟩
  unfold S_how_many
  simp only [sx_asg, sx_expr, sx_if, sx_ret, sx_retN, sx_raise, sx_for, sx_while, sx_next, sx_seq, sx_turnN, sx_turn, loop_fix, bind_at, pure_at, raise_at, andM_ok, andM_exc, andR_ok, andR_exc, andS_next, andS_ret, andS_exc, endR_next, endR_ret, endR_exc, end_at, toldR_ok, told_at, pure_bind, bind_assoc, getV_0, getV_s, stN_eq, stT2, stT3, stT_pr, List.set_cons_zero, List.set_cons_succ, List.map_cons, List.map_nil, List.replicate, List.cons_append, List.nil_append, List.append_nil, tupM_0, tupM_1, tupM_2, tupM_3, dispM_0, newL_f, asBool_bl, part_int, neg_int, cmp_lt, cmp_le, cmp_gt, cmp_ge, cmp_eq, cmp_ne, bin_add, bin_sub, len_tup, len_lst, idx_t0, idx_t1, idx_l0, idx_l1, it_tup, it_lst, ↓reduceIte, Bool.false_eq_true, Bool.not_true, Bool.not_false, decide_true, decide_false, need_mail_ok Mh (k := k + 13) hm, e]
theorem ways_at (V : HWays P fl ms) (hA : P.has ("Ways", some "at") 2 4 (S_Ways_at fl ms)) (ma : (("Ways" : Str), ("at" : Str)) ∈ ms) (la : A.length ≤ 7) (lb : B.length ≤ 7) {n : Nat} {o : List Nat} (hn : (ordsAt A B 0 0)[n]? = some o) {h : AH} :
    ∃ x, (makeM (run P (k + 17)) "Ways" [mailD A B] >>= fun w => methM ms (run P (k + 17)) "at" w (pure [.int n])) h = .ok (.tup (nats o)) (h ++ x) := by
  rw [bind_ok (make_ways V (k := k + 16))]
  obtain ⟨kvs', e2⟩ := at_ord V hA (k := k) la lb (ways_new (A := A) (B := B) (h := h)) hn
  rw [meth_at (l := [.int n]) (ways_new (A := A) (B := B) (h := h)).hw ma rfl rfl, e2]
  exact ⟨[.ins "Ways" [("held", mailD A B), ("known", .ref (h.length + 1))], .dct false kvs'], by congr 1; simp⟩
theorem first_order_eq (Mh : HMail P fl ms) (V : HWays P fl ms) (hC : P.has ("count_of", none) 1 0 (S_count_of fl ms)) (hA : P.has ("Ways", some "at") 2 4 (S_Ways_at fl ms)) (hF : P.has ("first_order", none) 1 0 (S_first_order fl ms)) (ma : (("Ways" : Str), ("at" : Str)) ∈ ms) (hm : IsMail A B) {o : List Nat} (ho : (ordsAt A B 0 0)[0]? = some o) {h : AH} :
    ∃ x, run P (k + 18) ("first_order", none) [mailD A B] h = .ok (.tup (nats o)) (h ++ x) := by
  show ∃ x, run P ((k + 17) + 1) _ _ h = _
  rw [hF (k + 17) _ rfl, bodyM_F]
  obtain ⟨x, e⟩ := count_of_eq V hC (k := k) hm.la hm.lb (h := h)
  rw [← ords_cnt] at e
  have pos : (0 : Int) < ((ordsAt A B 0 0).length : Int) := by
    have := (List.getElem?_eq_some_iff.mp ho).1
    omega
  obtain ⟨y, e2⟩ := ways_at V hA ma hm.la hm.lb (k := k) (n := 0) ho (h := h ++ x)
  refine ⟨x ++ y, ?_⟩
  rw [bind_at] at e2
  unfold S_first_order
  simp only [sx_asg, sx_expr, sx_if, sx_ret, sx_retN, sx_raise, sx_for, sx_while, sx_next, sx_seq, sx_turnN, sx_turn, loop_fix, bind_at, pure_at, raise_at, andM_ok, andM_exc, andR_ok, andR_exc, andS_next, andS_ret, andS_exc, endR_next, endR_ret, endR_exc, end_at, toldR_ok, told_at, pure_bind, bind_assoc, getV_0, getV_s, stN_eq, stT2, stT3, stT_pr, List.set_cons_zero, List.set_cons_succ, List.map_cons, List.map_nil, List.replicate, List.cons_append, List.nil_append, List.append_nil, tupM_0, tupM_1, tupM_2, tupM_3, dispM_0, newL_f, asBool_bl, part_int, neg_int, cmp_lt, cmp_le, cmp_gt, cmp_ge, cmp_eq, cmp_ne, bin_add, bin_sub, len_tup, len_lst, idx_t0, idx_t1, idx_l0, idx_l1, it_tup, it_lst, ↓reduceIte, Bool.false_eq_true, Bool.not_true, Bool.not_false, decide_true, decide_false, need_mail_ok Mh (k := k + 13) hm, e, decide_eq_true pos]
  have e2 : andM (makeM (run P (k + 17)) "Ways" [mailD A B] (h ++ x)) (fun w => methM ms (run P (k + 17)) "at" w (pure [.int 0])) = _ := e2
  rw [e2, andR_ok, endR_ret, List.append_assoc]
theorem first_order_none (Mh : HMail P fl ms) (V : HWays P fl ms) (hC : P.has ("count_of", none) 1 0 (S_count_of fl ms)) (hF : P.has ("first_order", none) 1 0 (S_first_order fl ms)) (hm : IsMail A B) (ho : ordsAt A B 0 0 = []) {h : AH} :
    ∃ x, run P (k + 18) ("first_order", none) [mailD A B] h = .ok .non (h ++ x) := by
  show ∃ x, run P ((k + 17) + 1) _ _ h = _
  rw [hF (k + 17) _ rfl, bodyM_F]
  obtain ⟨x, e⟩ := count_of_eq V hC (k := k) hm.la hm.lb (h := h)
  rw [← ords_cnt, ho] at e
  refine ⟨x, ?_⟩
  unfold S_first_order
  simp only [sx_asg, sx_expr, sx_if, sx_ret, sx_retN, sx_raise, sx_for, sx_while, sx_next, sx_seq, sx_turnN, sx_turn, loop_fix, bind_at, pure_at, raise_at, andM_ok, andM_exc, andR_ok, andR_exc, andS_next, andS_ret, andS_exc, endR_next, endR_ret, endR_exc, end_at, toldR_ok, told_at, pure_bind, bind_assoc, getV_0, getV_s, stN_eq, stT2, stT3, stT_pr, List.set_cons_zero, List.set_cons_succ, List.map_cons, List.map_nil, List.replicate, List.cons_append, List.nil_append, List.append_nil, tupM_0, tupM_1, tupM_2, tupM_3, dispM_0, newL_f, asBool_bl, part_int, neg_int, cmp_lt, cmp_le, cmp_gt, cmp_ge, cmp_eq, cmp_ne, bin_add, bin_sub, len_tup, len_lst, idx_t0, idx_t1, idx_l0, idx_l1, it_tup, it_lst, ↓reduceIte, Bool.false_eq_true, Bool.not_true, Bool.not_false, decide_true, decide_false, need_mail_ok Mh (k := k + 13) hm, e, List.length_nil, Int.natCast_zero, show decide ((0 : Int) < 0) = false from rfl]
theorem order_at_eq (Mh : HMail P fl ms) (V : HWays P fl ms) (hC : P.has ("count_of", none) 1 0 (S_count_of fl ms)) (hA : P.has ("Ways", some "at") 2 4 (S_Ways_at fl ms)) (hF : P.has ("order_at", none) 2 0 (S_order_at fl ms)) (ma : (("Ways" : Str), ("at" : Str)) ∈ ms) (hm : IsMail A B) {n : Nat} {o : List Nat} (ho : (ordsAt A B 0 0)[n]? = some o) {h : AH} :
    ∃ x, run P (k + 18) ("order_at", none) [mailD A B, .int n] h = .ok (.tup (nats o)) (h ++ x) := by
  show ∃ x, run P ((k + 17) + 1) _ _ h = _
  rw [hF (k + 17) _ rfl, bodyM_F]
  obtain ⟨x, e⟩ := count_of_eq V hC (k := k) hm.la hm.lb (h := h)
  rw [← ords_cnt] at e
  have lt := (List.getElem?_eq_some_iff.mp ho).1
  obtain ⟨y, e2⟩ := ways_at V hA ma hm.la hm.lb (k := k) ho (h := h ++ x)
  refine ⟨x ++ y, ?_⟩
  rw [bind_at] at e2
  unfold S_order_at
  simp only [sx_asg, sx_expr, sx_if, sx_ret, sx_retN, sx_raise, sx_for, sx_while, sx_next, sx_seq, sx_turnN, sx_turn, loop_fix, bind_at, pure_at, raise_at, andM_ok, andM_exc, andR_ok, andR_exc, andS_next, andS_ret, andS_exc, endR_next, endR_ret, endR_exc, end_at, toldR_ok, told_at, pure_bind, bind_assoc, getV_0, getV_s, stN_eq, stT2, stT3, stT_pr, List.set_cons_zero, List.set_cons_succ, List.map_cons, List.map_nil, List.replicate, List.cons_append, List.nil_append, List.append_nil, tupM_0, tupM_1, tupM_2, tupM_3, dispM_0, newL_f, asBool_bl, part_int, neg_int, cmp_lt, cmp_le, cmp_gt, cmp_ge, cmp_eq, cmp_ne, bin_add, bin_sub, len_tup, len_lst, idx_t0, idx_t1, idx_l0, idx_l1, it_tup, it_lst, ↓reduceIte, Bool.false_eq_true, Bool.not_true, Bool.not_false, decide_true, decide_false, need_mail_ok Mh (k := k + 13) hm, e, is_whole_int Mh.is_whole (k := k + 16), decide_eq_true (show (0 : Int) ≤ n by omega), decide_eq_true (show (n : Int) ≤ ((ordsAt A B 0 0).length : Int) - 1 by omega), Bool.and_self, e2, List.append_assoc]
/-! ### what was seen -/
def seenA (A B : List Int) (p : Nat × Nat) : List Int := if p.1 = 0 then A.take (p.2 + 1) else A.take (B.getD p.2 0).toNat
def seenB (A B : List Int) (p : Nat × Nat) : List Int := if p.1 = 0 then B.take (A.getD p.2 0).toNat else B.take (p.2 + 1)
theorem seen_at_bad (Mh : HMail P fl ms) (L : HLet P fl ms) (hS : P.has ("seen_at", none) 2 4 (S_seen_at fl ms)) (hm : IsMail A B) {d : D} (h : okL d) (hb : letB A.length B.length d = false) : run P (k + 5) ("seen_at", none) [mailD A B, d] = M.raise "BadLetter" := by
  show run P ((k + 4) + 1) _ _ = _
  rw [hS (k + 4) _ rfl, bodyM_F]
  funext h
  unfold S_seen_at
  simp only [sx_asg, sx_expr, sx_if, sx_ret, sx_retN, sx_raise, sx_for, sx_while, sx_next, sx_seq, sx_turnN, sx_turn, loop_fix, bind_at, pure_at, raise_at, andM_ok, andM_exc, andR_ok, andR_exc, andS_next, andS_ret, andS_exc, endR_next, endR_ret, endR_exc, end_at, toldR_ok, told_at, pure_bind, bind_assoc, getV_0, getV_s, stN_eq, stT2, stT3, stT_pr, List.set_cons_zero, List.set_cons_succ, List.map_cons, List.map_nil, List.replicate, List.cons_append, List.nil_append, List.append_nil, tupM_0, tupM_1, tupM_2, tupM_3, dispM_0, newL_f, asBool_bl, part_int, neg_int, cmp_lt, cmp_le, cmp_gt, cmp_ge, cmp_eq, cmp_ne, bin_add, bin_sub, len_tup, len_lst, idx_t0, idx_t1, idx_l0, idx_l1, it_tup, it_lst, ↓reduceIte, Bool.false_eq_true, Bool.not_true, Bool.not_false, decide_true, decide_false, need_mail_ok Mh hm, need_letter_bad Mh L (k := k + 1) (by assumption) hb]
theorem seen_at_no (Mh : HMail P fl ms) (L : HLet P fl ms) (W : HBar P fl ms) (hN : P.has ("need_there", none) 1 0 (S_need_there fl ms)) (hS : P.has ("seen_at", none) 2 4 (S_seen_at fl ms)) (hm : IsMail A B) {p : Nat × Nat} (hp : p ∈ lets A.length B.length) (hb : barr A B ≠ []) :
    run P (k + 5) ("seen_at", none) [mailD A B, prD p] = M.raise "Nothing" := by
  show run P ((k + 4) + 1) _ _ = _
  rw [hS (k + 4) _ rfl, bodyM_F]
  funext h
  unfold S_seen_at
  simp only [sx_asg, sx_expr, sx_if, sx_ret, sx_retN, sx_raise, sx_for, sx_while, sx_next, sx_seq, sx_turnN, sx_turn, loop_fix, bind_at, pure_at, raise_at, andM_ok, andM_exc, andR_ok, andR_exc, andS_next, andS_ret, andS_exc, endR_next, endR_ret, endR_exc, end_at, toldR_ok, told_at, pure_bind, bind_assoc, getV_0, getV_s, stN_eq, stT2, stT3, stT_pr, List.set_cons_zero, List.set_cons_succ, List.map_cons, List.map_nil, List.replicate, List.cons_append, List.nil_append, List.append_nil, tupM_0, tupM_1, tupM_2, tupM_3, dispM_0, newL_f, asBool_bl, part_int, neg_int, cmp_lt, cmp_le, cmp_gt, cmp_ge, cmp_eq, cmp_ne, bin_add, bin_sub, len_tup, len_lst, idx_t0, idx_t1, idx_l0, idx_l1, it_tup, it_lst, ↓reduceIte, Bool.false_eq_true, Bool.not_true, Bool.not_false, decide_true, decide_false, need_mail_ok Mh hm, need_letter_ok Mh L (k := k + 1) hp, need_there_eq W hN hm.la hm.lb, if_neg hb]
theorem seen_at_eq (Mh : HMail P fl ms) (L : HLet P fl ms) (W : HBar P fl ms) (hN : P.has ("need_there", none) 1 0 (S_need_there fl ms)) (hS : P.has ("seen_at", none) 2 4 (S_seen_at fl ms)) (hm : IsMail A B) {p : Nat × Nat} (hp : p ∈ lets A.length B.length) (hb : barr A B = []) :
    run P (k + 5) ("seen_at", none) [mailD A B, prD p] = pure (mailD (seenA A B p) (seenB A B p)) := by
  show run P ((k + 4) + 1) _ _ = _
  rw [hS (k + 4) _ rfl, bodyM_F]
  funext h
  obtain ⟨h1, h2⟩ := mem_lets' hp
  have z : 0 ≤ (bun A B p.1).getD p.2 0 := by
    rcases mem_lets hp with ⟨q1, q2⟩ | ⟨q1, q2⟩
    · rw [q1]; exact (hm.at_a q2).1
    · rw [q1]; exact (hm.at_b q2).1
  unfold S_seen_at
  simp only [sx_asg, sx_expr, sx_if, sx_ret, sx_retN, sx_raise, sx_for, sx_while, sx_next, sx_seq, sx_turnN, sx_turn, loop_fix, bind_at, pure_at, raise_at, andM_ok, andM_exc, andR_ok, andR_exc, andS_next, andS_ret, andS_exc, endR_next, endR_ret, endR_exc, end_at, toldR_ok, told_at, pure_bind, bind_assoc, getV_0, getV_s, stN_eq, stT2, stT3, stT_pr, List.set_cons_zero, List.set_cons_succ, List.map_cons, List.map_nil, List.replicate, List.cons_append, List.nil_append, List.append_nil, tupM_0, tupM_1, tupM_2, tupM_3, dispM_0, newL_f, asBool_bl, part_int, neg_int, cmp_lt, cmp_le, cmp_gt, cmp_ge, cmp_eq, cmp_ne, bin_add, bin_sub, len_tup, len_lst, idx_t0, idx_t1, idx_l0, idx_l1, it_tup, it_lst, ↓reduceIte, Bool.false_eq_true, Bool.not_true, Bool.not_false, decide_true, decide_false, need_mail_ok Mh hm, need_letter_ok Mh L (k := k + 1) hp, need_there_eq W hN hm.la hm.lb, if_pos hb, idx_mail h1, idx_other h1, idx_bun h2, slice_to z, slice_to (show (0 : Int) ≤ (p.2 : Int) + 1 by omega)]
  rcases mem_lets hp with ⟨q1, q2⟩ | ⟨q1, q2⟩
  · simp only [sx_asg, sx_expr, sx_if, sx_ret, sx_retN, sx_raise, sx_for, sx_while, sx_next, sx_seq, sx_turnN, sx_turn, loop_fix, bind_at, pure_at, raise_at, andM_ok, andM_exc, andR_ok, andR_exc, andS_next, andS_ret, andS_exc, endR_next, endR_ret, endR_exc, end_at, toldR_ok, told_at, pure_bind, bind_assoc, getV_0, getV_s, stN_eq, stT2, stT3, stT_pr, List.set_cons_zero, List.set_cons_succ, List.map_cons, List.map_nil, List.replicate, List.cons_append, List.nil_append, List.append_nil, tupM_0, tupM_1, tupM_2, tupM_3, dispM_0, newL_f, asBool_bl, part_int, neg_int, cmp_lt, cmp_le, cmp_gt, cmp_ge, cmp_eq, cmp_ne, bin_add, bin_sub, len_tup, len_lst, idx_t0, idx_t1, idx_l0, idx_l1, it_tup, it_lst, ↓reduceIte, Bool.false_eq_true, Bool.not_true, Bool.not_false, decide_true, decide_false, q1, seenA, seenB, bun, Int.natCast_zero, show ((p.2 : Int) + 1).toNat = p.2 + 1 by omega]
    simp [pure_at, andR, endR]
  · simp only [sx_asg, sx_expr, sx_if, sx_ret, sx_retN, sx_raise, sx_for, sx_while, sx_next, sx_seq, sx_turnN, sx_turn, loop_fix, bind_at, pure_at, raise_at, andM_ok, andM_exc, andR_ok, andR_exc, andS_next, andS_ret, andS_exc, endR_next, endR_ret, endR_exc, end_at, toldR_ok, told_at, pure_bind, bind_assoc, getV_0, getV_s, stN_eq, stT2, stT3, stT_pr, List.set_cons_zero, List.set_cons_succ, List.map_cons, List.map_nil, List.replicate, List.cons_append, List.nil_append, List.append_nil, tupM_0, tupM_1, tupM_2, tupM_3, dispM_0, newL_f, asBool_bl, part_int, neg_int, cmp_lt, cmp_le, cmp_gt, cmp_ge, cmp_eq, cmp_ne, bin_add, bin_sub, len_tup, len_lst, idx_t0, idx_t1, idx_l0, idx_l1, it_tup, it_lst, ↓reduceIte, Bool.false_eq_true, Bool.not_true, Bool.not_false, decide_true, decide_false, q1, seenA, seenB, bun, show ((1 : Nat) : Int) = 1 from rfl, show decide ((1 : Int) = 0) = false from rfl, show ((p.2 : Int) + 1).toNat = p.2 + 1 by omega]
    simp [pure_at, andR, endR]
end
end Cr
set_option Elab.async false
set_option linter.all false
set_option maxRecDepth 100000
set_option maxHeartbeats 1000000
/-! Rows; what was seen is mail that can be, its letter the last. -/
namespace Cr
open PySem
theorem zip_up : ∀ {r : List Int}, (r.zip r.tail).all (fun p => decide (p.1 ≤ p.2)) = true → r.Pairwise (· ≤ ·)
  | [], _ => .nil
  | [a], _ => by simp
  | a :: b :: r, h => by
    simp only [List.tail_cons, List.zip_cons_cons, List.all_cons, Bool.and_eq_true, decide_eq_true_eq] at h
    have ih := zip_up (r := b :: r) h.2
    refine List.pairwise_cons.mpr ⟨fun x hx => ?_, ih⟩
    rcases List.mem_cons.mp hx with rfl | hx
    · exact h.1
    · exact Int.le_trans h.1 ((List.pairwise_cons.mp ih).1 x hx)
theorem bund_row {A : List Int} {m : Int} (h : bundB A m = true) : RowOk A m ∧ A.length ≤ 7 := by
  unfold bundB at h
  simp only [Bool.and_eq_true, decide_eq_true_eq] at h
  refine ⟨⟨zip_up h.2, fun x hx => ?_⟩, by omega⟩
  have := List.all_eq_true.mp h.1.2 x hx
  simpa using this
theorem IsMail.ra {A B : List Int} (h : IsMail A B) : RowOk A B.length := (bund_row h.a).1
theorem IsMail.rb {A B : List Int} (h : IsMail A B) : RowOk B A.length := (bund_row h.b).1
theorem RowOk.le {A : List Int} {m : Int} (h : RowOk A m) {i j : Nat} (hij : i ≤ j) (hj : j < A.length) : A.getD i 0 ≤ A.getD j 0 := by
  have hi : i < A.length := by omega
  rw [List.getD_eq_getElem?_getD, List.getD_eq_getElem?_getD, List.getElem?_eq_getElem hi, List.getElem?_eq_getElem hj]
  show A[i] ≤ A[j]
  rcases Nat.lt_or_eq_of_le hij with q | q
  · exact List.pairwise_iff_getElem.mp h.up i j hi hj q
  · subst q; exact Int.le_refl _
theorem row_of {A : List Int} {m : Int} (h1 : ∀ i j, i ≤ j → j < A.length → A.getD i 0 ≤ A.getD j 0) (h2 : ∀ i, i < A.length → 0 ≤ A.getD i 0 ∧ A.getD i 0 ≤ m) : RowOk A m := by
  refine ⟨List.pairwise_iff_getElem.mpr fun i j hi hj hij => ?_, fun x hx => ?_⟩
  · have := h1 i j (by omega) hj
    rw [List.getD_eq_getElem?_getD, List.getD_eq_getElem?_getD, List.getElem?_eq_getElem hi, List.getElem?_eq_getElem hj] at this
    exact this
  · obtain ⟨i, hi, rfl⟩ := List.mem_iff_getElem.mp hx
    have := h2 i hi
    rw [List.getD_eq_getElem?_getD, List.getElem?_eq_getElem hi] at this
    exact this
theorem mail_of {A B : List Int} (ha : RowOk A B.length) (hb : RowOk B A.length) (la : A.length ≤ 7) (lb : B.length ≤ 7) : IsMail A B := ⟨ha.bund la, hb.bund lb⟩
theorem getD_take {A : List Int} {n i : Nat} (h : i < n) : (A.take n).getD i 0 = A.getD i 0 := by
  rw [List.getD_eq_getElem?_getD, List.getD_eq_getElem?_getD, List.getElem?_take_of_lt h]
theorem barr_iff {A B : List Int} : barr A B = [] ↔ ∀ i j, i < A.length → j < B.length → ¬ ((j : Int) < A.getD i 0 ∧ (i : Int) < B.getD j 0) := by
  unfold barr
  rw [List.filter_eq_nil_iff]
  constructor
  · intro h i j hi hj ⟨h1, h2⟩
    exact h (i, j) (mem_prs.mpr ⟨hi, hj⟩) (by unfold barB; simp only [Bool.and_eq_true, decide_eq_true_eq]; exact ⟨h1, h2⟩)
  · intro h p hp hb
    obtain ⟨h1, h2⟩ := mem_prs.mp hp
    unfold barB at hb
    simp only [Bool.and_eq_true, decide_eq_true_eq] at hb
    exact h p.1 p.2 h1 h2 hb
/-- both beginnings -/
theorem seen_mail {A B : List Int} (hm : IsMail A B) (hb : barr A B = []) {i : Nat} (hi : i < A.length) : IsMail (A.take (i + 1)) (B.take (A.getD i 0).toNat) ∧ barr (A.take (i + 1)) (B.take (A.getD i 0).toNat) = [] ∧ (B.take (A.getD i 0).toNat).length = (A.getD i 0).toNat ∧ (A.take (i + 1)).length = i + 1 := by
  obtain ⟨z0, z1⟩ := hm.at_a hi
  have bb := barr_iff.mp hb
  have lB : (B.take (A.getD i 0).toNat).length = (A.getD i 0).toNat := by rw [List.length_take]; omega
  have lA : (A.take (i + 1)).length = i + 1 := by rw [List.length_take]; omega
  have la := hm.la
  have lb := hm.lb
  refine ⟨mail_of (row_of (fun x y hxy hy => ?_) (fun x hx => ?_)) (row_of (fun x y hxy hy => ?_) (fun x hx => ?_)) (by omega) (by omega), barr_iff.mpr fun x y hx hy ⟨h1, h2⟩ => ?_, lB, lA⟩
  · rw [getD_take (by omega), getD_take (by omega)]
    exact hm.ra.le hxy (by omega)
  · rw [getD_take (by omega), lB]
    have := hm.at_a (i := x) (by omega)
    have := hm.ra.le (i := x) (j := i) (by omega) hi
    omega
  · rw [lB] at hy
    rw [getD_take (by omega), getD_take (by omega)]
    exact hm.rb.le hxy (by omega)
  · rw [lB] at hx
    rw [getD_take (by omega), lA]
    have := hm.at_b (i := x) (by omega)
    have := bb i x hi (by omega)
    omega
  · rw [lB] at hy
    rw [lA] at hx
    rw [getD_take (by omega)] at h1 h2
    exact bb x y (by omega) (by omega) ⟨h1, h2⟩
theorem IsMail.swap {A B : List Int} (h : IsMail A B) : IsMail B A := ⟨h.b, h.a⟩
theorem barr_swap {A B : List Int} (h : barr A B = []) : barr B A = [] := barr_iff.mpr fun i j hi hj ⟨h1, h2⟩ => barr_iff.mp h j i hj hi ⟨h2, h1⟩
/-- the letter that had read all is the last -/
theorem last0 {A B : List Int} (hl : A.getD (A.length - 1) 0 = B.length) : ∀ {o : List Nat} {i j : Nat}, Ord A B i j o → i < A.length → o.getLast? = some 0
  | [], i, j, h, hi => by have := h.1; omega
  | s :: r, i, j, h, hi => by
    rcases h with ⟨rfl, m, h⟩ | ⟨rfl, m, h⟩
    · by_cases q : i + 1 < A.length
      · have ih := last0 hl h q
        cases r with
        | nil => cases ih
        | cons a r => simpa using ih
      · have e : i = A.length - 1 := by omega
        obtain ⟨_, m2⟩ := may_lt m
        rw [e, hl] at m2
        have := ord_len h
        have : r = [] := by
          cases r with
          | nil => rfl
          | cons a r => simp at this; omega
        subst this
        rfl
    · have ih := last0 hl h hi
      cases r with
      | nil => cases ih
      | cons a r => simpa using ih
theorem last1 {A B : List Int} (hl : B.getD (B.length - 1) 0 = A.length) : ∀ {o : List Nat} {i j : Nat}, Ord A B i j o → j < B.length → o.getLast? = some 1
  | [], i, j, h, hi => by have := h.2; omega
  | s :: r, i, j, h, hi => by
    rcases h with ⟨rfl, m, h⟩ | ⟨rfl, m, h⟩
    · have ih := last1 hl h hi
      cases r with
      | nil => cases ih
      | cons a r => simpa using ih
    · by_cases q : j + 1 < B.length
      · have ih := last1 hl h q
        cases r with
        | nil => cases ih
        | cons a r => simpa using ih
      · have e : j = B.length - 1 := by omega
        obtain ⟨_, m2⟩ := may_lt m
        rw [e, hl] at m2
        have := ord_len h
        have : r = [] := by
          cases r with
          | nil => rfl
          | cons a r => simp at this; omega
        subst this
        rfl
theorem seen_ok {A B : List Int} (hm : IsMail A B) (hb : barr A B = []) {p : Nat × Nat} (hp : p ∈ lets A.length B.length) : IsMail (seenA A B p) (seenB A B p) ∧ barr (seenA A B p) (seenB A B p) = [] ∧ ∀ o ∈ ordsAt (seenA A B p) (seenB A B p) 0 0, o.getLast? = some p.1 := by
  unfold seenA seenB
  rcases mem_lets hp with ⟨h1, h2⟩ | ⟨h1, h2⟩
  · rw [h1, if_pos rfl, if_pos rfl]
    obtain ⟨s1, s2, s3, s4⟩ := seen_mail hm hb h2
    refine ⟨s1, s2, fun o ho => last0 ?_ ((mem_ordsAt (Nat.zero_le _) (Nat.zero_le _)).mp ho) (by omega)⟩
    rw [s4, s3, Nat.add_sub_cancel, getD_take (by omega)]
    have := hm.at_a h2
    omega
  · rw [h1, if_neg (by decide), if_neg (by decide)]
    obtain ⟨s1, s2, s3, s4⟩ := seen_mail hm.swap (barr_swap hb) h2
    refine ⟨s1.swap, barr_swap s2, fun o ho => last1 ?_ ((mem_ordsAt (Nat.zero_le _) (Nat.zero_le _)).mp ho) (by omega)⟩
    rw [s4, s3, Nat.add_sub_cancel, getD_take (by omega)]
    have := hm.at_b h2
    omega
theorem take_pre {β : Type} {l : List β} {m n : Nat} (h : m ≤ n) : (l.take n).take (l.take m).length = l.take m := by
  rw [List.length_take, List.take_take, Nat.min_eq_left (Nat.le_trans (Nat.min_le_left _ _) h)]
  rcases Nat.le_total m l.length with q | q
  · rw [Nat.min_eq_left q]
  · rw [Nat.min_eq_right q, List.take_of_length_le (Nat.le_refl _), List.take_of_length_le q]
end Cr
set_option Elab.async false
set_option linter.all false
set_option maxRecDepth 100000
set_option maxHeartbeats 1000000
/-! Rounds of dice; more of equality. -/
namespace Cr
open PySem
theorem Keep.app {n : Nat} {h h' x : AH} (K : Keep n h h') : Keep n h (h' ++ x) := by
  refine ⟨by rw [List.length_append]; exact Nat.le_trans K.len (Nat.le_add_right _ _), fun m hm hn => ?_, ?_⟩
  · rw [List.getElem?_append_left (Nat.lt_of_lt_of_le hm K.len)]
    exact K.same m hm hn
  · obtain ⟨c, i, e⟩ := K.die
    exact ⟨c, i, by rw [List.getElem?_append_left (List.getElem?_eq_some_iff.mp e).1]; exact e⟩
theorem Keep.refl {n : Nat} {h : AH} (d : Die n h) : Keep n h h := ⟨Nat.le_refl _, fun _ _ _ => rfl, d⟩
theorem for_thn {β : Type} {B : D → Env → AH → RS} {l : List β} {f : β → D} {R : Env → AH → RS} {Q : RS → Prop} {ρ : Env} {h : AH} (I : Env → AH → Prop) (h0 : I ρ h) (hs : ∀ b ∈ l, ∀ ρ h, I ρ h → ∃ ρ' h', B (f b) ρ h = .next ρ' h' ∧ I ρ' h') (hq : ∀ ρ h, I ρ h → Q (R ρ h)) : Q (andS (forFix B (l.map f) ρ h) R) := by
  obtain ⟨ρ', h', e, q⟩ := for_map (f := f) I h0 hs
  rw [e]
  exact hq ρ' h' q
theorem for_thl {B : D → Env → AH → RS} {l : List D} {R : Env → AH → RS} {Q : RS → Prop} {ρ : Env} {h : AH} (I : Env → AH → Prop) (h0 : I ρ h) (hs : ∀ b ∈ l, ∀ ρ h, I ρ h → ∃ ρ' h', B b ρ h = .next ρ' h' ∧ I ρ' h') (hq : ∀ ρ h, I ρ h → Q (R ρ h)) : Q (andS (forFix B l ρ h) R) := by
  obtain ⟨ρ', h', e, q⟩ := for_all I h0 hs
  rw [e]
  exact hq ρ' h' q
theorem for_nx {β : Type} {B : D → Env → AH → RS} {l : List β} {f : β → D} {R : Env → AH → RS} {J : Env → AH → Prop} {ρ : Env} {h : AH} (I : Env → AH → Prop) (h0 : I ρ h) (hs : ∀ b ∈ l, ∀ ρ h, I ρ h → ∃ ρ' h', B (f b) ρ h = .next ρ' h' ∧ I ρ' h') (hq : ∀ ρ h, I ρ h → ∃ ρ' h', R ρ h = .next ρ' h' ∧ J ρ' h') : ∃ ρ' h', andS (forFix B (l.map f) ρ h) R = .next ρ' h' ∧ J ρ' h' := for_thn (Q := fun r => ∃ ρ' h', r = .next ρ' h' ∧ J ρ' h') I h0 hs hq
theorem for_ny {β : Type} {B : D → Env → AH → RS} {l : List β} {f : β → D} {J : Env → AH → Prop} {ρ : Env} {h : AH} (I : Env → AH → Prop) (h0 : I ρ h) (hs : ∀ b ∈ l, ∀ ρ h, I ρ h → ∃ ρ' h', B (f b) ρ h = .next ρ' h' ∧ I ρ' h') (hq : ∀ ρ h, I ρ h → J ρ h) : ∃ ρ' h', forFix B (l.map f) ρ h = .next ρ' h' ∧ J ρ' h' := by
  obtain ⟨ρ', h', e, q⟩ := for_map (f := f) I h0 hs
  exact ⟨ρ', h', e, hq _ _ q⟩
theorem for_lx {B : D → Env → AH → RS} {l : List D} {R : Env → AH → RS} {J : Env → AH → Prop} {ρ : Env} {h : AH} (I : Env → AH → Prop) (h0 : I ρ h) (hs : ∀ b ∈ l, ∀ ρ h, I ρ h → ∃ ρ' h', B b ρ h = .next ρ' h' ∧ I ρ' h') (hq : ∀ ρ h, I ρ h → ∃ ρ' h', R ρ h = .next ρ' h' ∧ J ρ' h') : ∃ ρ' h', andS (forFix B l ρ h) R = .next ρ' h' ∧ J ρ' h' := for_thl (Q := fun r => ∃ ρ' h', r = .next ρ' h' ∧ J ρ' h') I h0 hs hq
theorem for_ly {B : D → Env → AH → RS} {l : List D} {J : Env → AH → Prop} {ρ : Env} {h : AH} (I : Env → AH → Prop) (h0 : I ρ h) (hs : ∀ b ∈ l, ∀ ρ h, I ρ h → ∃ ρ' h', B b ρ h = .next ρ' h' ∧ I ρ' h') (hq : ∀ ρ h, I ρ h → J ρ h) : ∃ ρ' h', forFix B l ρ h = .next ρ' h' ∧ J ρ' h' := by
  obtain ⟨ρ', h', e, q⟩ := for_all I h0 hs
  exact ⟨ρ', h', e, hq _ _ q⟩
/-- the dice, one by one -/
theorem for_dice {B : D → Env → AH → RS} {c : Nat} {R : Env → AH → RS} {Q : RS → Prop} {ρ : Env} {h : AH} (I : Env → Prop) (h0 : I ρ) (dh : ∀ i, i < c → Die i h) (hs : ∀ n ρ h, I ρ → Die n h → ∃ ρ' h', B (.ref n) ρ h = .next ρ' h' ∧ I ρ' ∧ Keep n h h') (hq : ∀ ρ h, I ρ → Q (R ρ h)) : Q (andS (forFix B ((List.range c).map fun i => .ref i) ρ h) R) :=
  for_thn (fun ρ h => I ρ ∧ ∀ i, i < c → Die i h) ⟨h0, dh⟩ (fun b hb ρ h ⟨i, dh⟩ => by
    obtain ⟨ρ', h', e, i', K⟩ := hs b ρ h i (dh b (List.mem_range.mp hb))
    refine ⟨ρ', h', e, i', fun j hj => ?_⟩
    by_cases q : j = b
    · rw [q]; exact K.die
    · obtain ⟨a, b, ej⟩ := dh j hj
      exact ⟨a, b, by rw [K.same j (List.getElem?_eq_some_iff.mp ej).1 q]; exact ej⟩) fun ρ h ⟨i, _⟩ => hq ρ h i
/-! ### the evaluator, outside in -/
theorem andS_cg {r r' : RS} {f : Env → AH → RS} (h : r = r') : andS r f = andS r' f := by rw [h]
theorem andR_cg {α : Type} {r r' : Cr.R α} {ρ : Env} {f : α → AH → RS} (h : r = r') : andR r ρ f = andR r' ρ f := by rw [h]
theorem andM_cg {α β : Type} {r r' : Cr.R α} {f : α → M β} (h : r = r') : andM r f = andM r' f := by rw [h]
theorem sy_any {F R : Env → AH → RS} {ρ : Env} {h : AH} : seqS F R ρ h = andS (F ρ h) R := rfl
theorem andS_id {r : RS} : andS r (fun ρ h => .next ρ h) = r := by cases r <;> rfl
theorem lift_at {α : Type} {x : M α} {ρ : Env} {f : α → AH → RS} {h : AH} : liftE x ρ f h = andR (x h) ρ f := rfl
theorem ite_at {α : Type} {c : Prop} [Decidable c] {x y : M α} {h : AH} : (if c then x else y) h = if c then x h else y h := by split <;> rfl
theorem iteS_at {c : Prop} [Decidable c] {x y : Env → AH → RS} {ρ : Env} {h : AH} : (if c then x else y) ρ h = if c then x ρ h else y ρ h := by split <;> rfl
def noxR {α : Type} (r : Cr.R α) : Cr.R α := match r with
  | .exc _ _ => .stuck
  | x => x
theorem nox_eq {α : Type} {x : M α} {h : AH} : M.nox x h = noxR (x h) := rfl
@[simp] theorem noxR_ok {α : Type} {a : α} {h : AH} : noxR (.ok a h) = .ok a h := rfl
theorem or_and {a b c : Bool} {h : AH} : (if a = true then Cr.R.ok true h else if b = true then .ok c h else .ok false h) = .ok (a || (b && c)) h := by cases a <;> cases b <;> cases c <;> rfl
theorem or_or {a b : Bool} {h : AH} : (if a = true then Cr.R.ok true h else .ok b h) = .ok (a || b) h := by cases a <;> cases b <;> rfl
theorem and_and {a b : Bool} {h : AH} : (if a = true then Cr.R.ok b h else .ok false h) = .ok (a && b) h := by cases a <;> cases b <;> rfl
theorem zip_mail {A B C E : List Int} : zipM (mailD A B) (mailD C E) = pure (.fix [.tup [bunD A, bunD C], .tup [bunD B, bunD E]]) := rfl
theorem nox_at {α : Type} {x : M α} {h : AH} {a : α} {h' : AH} (e : x h = .ok a h') : M.nox x h = .ok a h' := by unfold M.nox; rw [e]
/-! ### equality -/
theorem em_str {s : Str} (hs : PyData.strOk s = true) : Em 1 (.str s) (.str s) := fun k h hk => by
  cases k with
  | zero => omega
  | succ k => exact if_pos hs
theorem eqv_str {s t : Str} : PyData.eqv (.str s) (.str t) = decide (s = t) := by
  by_cases h : s = t <;> simp [PyData.eqv, h]
theorem ne_told {c d : Str} (hc : PyData.strOk c = true) (hd : PyData.strOk d = true) : cmpM .NotEq (.tup [.str "refused", .str c]) (.tup [.str "refused", .str d]) = pure (!decide (c = d)) := by
  have r : PyData.strOk "refused" = true := by decide +kernel
  rw [ne_of ((em_pair (em_str r) (em_str hc)).mono (by decide)) ((em_pair (em_str r) (em_str hd)).mono (by decide))]
  show (pure (!(PyData.eqv (.str "refused") (.str "refused") && (PyData.eqv (.str c) (.str d) && true))) : M Bool) = _
  rw [eqv_str, eqv_str, Bool.and_true, decide_eq_true rfl, Bool.true_and]
def bunP (A : List Int) : PyData := .tuple (A.map .int)
theorem em_bun (A : List Int) : Em 2 (bunD A) (bunP A) := em_tup (n := 1) fun _ _ => em_int
theorem eqv_bun (A B : List Int) : PyData.eqv (bunP A) (bunP B) = decide (A = B) := eqv_tuple (fun _ _ => eqv_int) A B
theorem ne_bun {A B : List Int} : cmpM .NotEq (bunD A) (bunD B) = pure (!decide (A = B)) := by
  rw [ne_of ((em_bun A).mono (by decide)) ((em_bun B).mono (by decide)), eqv_bun]
theorem eq_bun {A B : List Int} : cmpM .Eq (bunD A) (bunD B) = pure (decide (A = B)) := by
  rw [eq_of ((em_bun A).mono (by decide)) ((em_bun B).mono (by decide)), eqv_bun]
theorem eqv_mail (A B C E : List Int) : PyData.eqv (.tuple [bunP A, bunP B]) (.tuple [bunP C, bunP E]) = decide (A = C ∧ B = E) := by
  show (PyData.eqv (bunP A) (bunP C) && (PyData.eqv (bunP B) (bunP E) && true)) = _
  rw [eqv_bun, eqv_bun, Bool.and_true]
  by_cases h1 : A = C <;> by_cases h2 : B = E <;> simp [h1, h2]
theorem ne_mail {A B C E : List Int} : cmpM .NotEq (mailD A B) (mailD C E) = pure (!decide (A = C ∧ B = E)) := by
  have e : ∀ X Y, Em 8 (mailD X Y) (.tuple [bunP X, bunP Y]) := fun X Y => (em_pair (em_bun X) (em_bun Y)).mono (by decide)
  rw [ne_of (e A B) (e C E), eqv_mail]
theorem eq_mail {A B C E : List Int} : cmpM .Eq (mailD A B) (mailD C E) = pure (decide (A = C ∧ B = E)) := by
  have e : ∀ X Y, Em 8 (mailD X Y) (.tuple [bunP X, bunP Y]) := fun X Y => (em_pair (em_bun X) (em_bun Y)).mono (by decide)
  rw [eq_of (e A B) (e C E), eqv_mail]
theorem idx_neg {l : List D} {d : D} (h : l.getLast? = some d) : idxM (.tup l) (.int (-1)) = pure d := by
  have hl : l ≠ [] := by rintro rfl; cases h
  have lp := List.length_pos_iff.mpr hl
  show atL l (-1) = _
  unfold atL
  rw [show ixOf l.length (-1) = some (l.length - 1) by unfold ixOf; simp; omega]
  rw [List.getLast?_eq_getElem?] at h
  simp only [h]
theorem last_nats {o : List Nat} {s : Nat} (h : o.getLast? = some s) : (nats o).getLast? = some (.int s) := by
  unfold nats
  rw [List.getLast?_map, h]
  rfl
theorem len_bun {X : List Int} : b_len [bunD X] = pure (.int X.length) := by
  rw [show b_len [bunD X] = pure (.int ((X.map D.int).length : Int)) from rfl, List.length_map]
theorem slice_nat {X : List Int} {n : Nat} : sliceM false (bunD X) none (some (n : Int)) = pure (bunD (X.take n)) := slice_to (by omega)
theorem is_bl {a b : Bool} : cmpM .IsNot (.bl a) (.bl b) = pure (!(a == b)) := rfl
theorem ne_nil_l {l : List D} : cmpM .NotEq (.lst []) (.lst []) = pure false := rfl
theorem ords_pos {A B : List Int} (hm : IsMail A B) (hb : barr A B = []) : ∃ o, (ordsAt A B 0 0)[0]? = some o := by
  have := cnt_pos hm hb _ 0 0 rfl (Nat.zero_le _) (Nat.zero_le _)
  rw [← ords_cnt] at this
  exact ⟨_, List.getElem?_eq_getElem (by omega)⟩
end Cr
set_option Elab.async false
set_option linter.all false
set_option maxRecDepth 100000
set_option maxHeartbeats 1000000
/-! Lists of refusals; what was known by depths. -/
namespace Cr
open PySem
/-! ### a list of what was told -/
section
variable {ms : List (Str × Str)} {o : Ora} {h : AH}
theorem last_at {c : Cell} : (h ++ [c])[h.length]? = some c := by simp
theorem disp_new {l : List D} (hl : l.length ≤ most) : dispM true l h = .ok (.ref h.length) (h ++ [.lst l]) := by
  unfold dispM
  rw [if_pos hl]
  rfl
theorem disp_1 {a : D} : dispM true [a] h = .ok (.ref h.length) (h ++ [.lst [a]]) := rfl
theorem meth_made {l : List D} {args : M (List D)} : methM ms o "append" (.ref h.length) args (h ++ [.lst l]) = andM (args (h ++ [.lst l])) (appM h.length) := by
  show (getC h.length >>= _) _ = _
  rw [bind_ok (getC_ok last_at)]
  rfl
theorem app_last {l : List D} {y : D} (hl : l.length < most) : appM h.length [y] (h ++ [.lst l]) = .ok .non (h ++ [.lst (l ++ [y])]) := by
  show (getC h.length >>= _) _ = _
  rw [bind_ok (getC_ok last_at)]
  show (if l.length < most then do setC h.length (.lst (l ++ [y])); pure .non else M.stuck : M D) _ = _
  rw [if_pos hl]
  rw [bind_ok (show setC h.length (.lst (l ++ [y])) (h ++ [.lst l]) = .ok () (h ++ [.lst (l ++ [y])]) by unfold setC; simp)]
  rfl
theorem app_l1 {a0 y : D} : appM h.length [y] (h ++ [.lst [a0]]) = .ok .non (h ++ [.lst [a0, y]]) := app_last (by simp [most])
theorem app_l2 {a0 a1 y : D} : appM h.length [y] (h ++ [.lst [a0, a1]]) = .ok .non (h ++ [.lst [a0, a1, y]]) := app_last (by simp [most])
theorem app_l3 {a0 a1 a2 y : D} : appM h.length [y] (h ++ [.lst [a0, a1, a2]]) = .ok .non (h ++ [.lst [a0, a1, a2, y]]) := app_last (by simp [most])
theorem app_l4 {a0 a1 a2 a3 y : D} : appM h.length [y] (h ++ [.lst [a0, a1, a2, a3]]) = .ok .non (h ++ [.lst [a0, a1, a2, a3, y]]) := app_last (by simp [most])
theorem app_l5 {a0 a1 a2 a3 a4 y : D} : appM h.length [y] (h ++ [.lst [a0, a1, a2, a3, a4]]) = .ok .non (h ++ [.lst [a0, a1, a2, a3, a4, y]]) := app_last (by simp [most])
theorem app_l6 {a0 a1 a2 a3 a4 a5 y : D} : appM h.length [y] (h ++ [.lst [a0, a1, a2, a3, a4, a5]]) = .ok .non (h ++ [.lst [a0, a1, a2, a3, a4, a5, y]]) := app_last (by simp [most])
theorem app_l7 {a0 a1 a2 a3 a4 a5 a6 y : D} : appM h.length [y] (h ++ [.lst [a0, a1, a2, a3, a4, a5, a6]]) = .ok .non (h ++ [.lst [a0, a1, a2, a3, a4, a5, a6, y]]) := app_last (by simp [most])
theorem app_l8 {a0 a1 a2 a3 a4 a5 a6 a7 y : D} : appM h.length [y] (h ++ [.lst [a0, a1, a2, a3, a4, a5, a6, a7]]) = .ok .non (h ++ [.lst [a0, a1, a2, a3, a4, a5, a6, a7, y]]) := app_last (by simp [most])
theorem app_l9 {a0 a1 a2 a3 a4 a5 a6 a7 a8 y : D} : appM h.length [y] (h ++ [.lst [a0, a1, a2, a3, a4, a5, a6, a7, a8]]) = .ok .non (h ++ [.lst [a0, a1, a2, a3, a4, a5, a6, a7, a8, y]]) := app_last (by simp [most])

def tolD (c : Str) : D := .tup [.str "refused", .str c]
theorem eqv_rep {c : Str} {n : Nat} : PyData.eqv (.list (List.replicate n (PyData.tuple [.str "refused", .str c]))) (.list (List.replicate n (PyData.tuple [.str "refused", .str c]))) = true := by
  show PyData.eqvAll _ _ = true
  induction n with
  | zero => rfl
  | succ n ih =>
    rw [List.replicate_succ]
    have z : PyData.eqv (.tuple [.str "refused", .str c]) (.tuple [.str "refused", .str c]) = true := by
      show (PyData.eqv (.str "refused") (.str "refused") && (PyData.eqv (.str c) (.str c) && true)) = true
      rw [eqv_str, eqv_str, decide_eq_true rfl, decide_eq_true rfl]
      rfl
    simp only [PyData.eqvAll, z, Bool.true_and]
    exact ih
theorem ne_made {c : Str} {t : D} (ht : t = tolD c) (hc : PyData.strOk c = true) {n : Nat} : cmpM .NotEq (.ref h.length) (.lst (List.replicate n t)) (h ++ [.lst (List.replicate n t)]) = .ok false (h ++ [.lst (List.replicate n t)]) := by
  subst ht
  have r : PyData.strOk "refused" = true := by decide +kernel
  have e1 : ∀ k hh, 2 ≤ k → emb k hh (tolD c) = some (.tuple [.str "refused", .str c]) := fun k hh hk => (em_pair (em_str r) (em_str hc)) k hh hk
  have e2 : ∀ k hh, 2 ≤ k → (List.replicate n (tolD c)).mapM (emb k hh) = some (List.replicate n (PyData.tuple [.str "refused", .str c])) := fun k hh hk => by
    induction n with
    | zero => rfl
    | succ n ih => rw [List.replicate_succ, List.mapM_cons, e1 k hh hk, ih]; rfl
  have e3 := eqv_rep (c := c) (n := n)
  have a1 : emb 8 (h ++ [.lst (List.replicate n (tolD c))]) (.ref h.length) = some (.list (List.replicate n (PyData.tuple [.str "refused", .str c]))) := by
    show (match (h ++ [Cell.lst (List.replicate n (tolD c))])[h.length]? with | some (.lst l) => (l.mapM (emb 7 _)).map PyData.list | _ => none) = _
    rw [last_at]
    show ((List.replicate n (tolD c)).mapM (emb 7 _)).map PyData.list = _
    rw [e2 7 _ (by decide)]
    rfl
  have a2 : emb 8 (h ++ [.lst (List.replicate n (tolD c))]) (.lst (List.replicate n (tolD c))) = some (.list (List.replicate n (PyData.tuple [.str "refused", .str c]))) := by
    show ((List.replicate n (tolD c)).mapM (emb 7 _)).map PyData.list = _
    rw [e2 7 _ (by decide)]
    rfl
  show M.bind (eqM _ _) (fun c => M.pure (!c)) _ = _
  unfold M.bind eqM
  rw [a1, a2]
  show Cr.R.ok (!PyData.eqv _ _) _ = _
  rw [e3]
  rfl
theorem ne_made2 {c : Str} (hc : PyData.strOk c = true) : cmpM .NotEq (.ref h.length) (.lst [.tup [.str "refused", .str c], .tup [.str "refused", .str c]]) (h ++ [.lst [.tup [.str "refused", .str c], .tup [.str "refused", .str c]]]) = .ok false (h ++ [.lst [.tup [.str "refused", .str c], .tup [.str "refused", .str c]]]) := ne_made (t := tolD c) rfl hc (n := 2)
theorem ne_made3 {c : Str} (hc : PyData.strOk c = true) : cmpM .NotEq (.ref h.length) (.lst [.tup [.str "refused", .str c], .tup [.str "refused", .str c], .tup [.str "refused", .str c]]) (h ++ [.lst [.tup [.str "refused", .str c], .tup [.str "refused", .str c], .tup [.str "refused", .str c]]]) = .ok false (h ++ [.lst [.tup [.str "refused", .str c], .tup [.str "refused", .str c], .tup [.str "refused", .str c]]]) := ne_made (t := tolD c) rfl hc (n := 3)
theorem ne_made4 {c : Str} (hc : PyData.strOk c = true) : cmpM .NotEq (.ref h.length) (.lst [.tup [.str "refused", .str c], .tup [.str "refused", .str c], .tup [.str "refused", .str c], .tup [.str "refused", .str c]]) (h ++ [.lst [.tup [.str "refused", .str c], .tup [.str "refused", .str c], .tup [.str "refused", .str c], .tup [.str "refused", .str c]]]) = .ok false (h ++ [.lst [.tup [.str "refused", .str c], .tup [.str "refused", .str c], .tup [.str "refused", .str c], .tup [.str "refused", .str c]]]) := ne_made (t := tolD c) rfl hc (n := 4)
theorem ne_made5 {c : Str} (hc : PyData.strOk c = true) : cmpM .NotEq (.ref h.length) (.lst [.tup [.str "refused", .str c], .tup [.str "refused", .str c], .tup [.str "refused", .str c], .tup [.str "refused", .str c], .tup [.str "refused", .str c]]) (h ++ [.lst [.tup [.str "refused", .str c], .tup [.str "refused", .str c], .tup [.str "refused", .str c], .tup [.str "refused", .str c], .tup [.str "refused", .str c]]]) = .ok false (h ++ [.lst [.tup [.str "refused", .str c], .tup [.str "refused", .str c], .tup [.str "refused", .str c], .tup [.str "refused", .str c], .tup [.str "refused", .str c]]]) := ne_made (t := tolD c) rfl hc (n := 5)
theorem ne_made6 {c : Str} (hc : PyData.strOk c = true) : cmpM .NotEq (.ref h.length) (.lst [.tup [.str "refused", .str c], .tup [.str "refused", .str c], .tup [.str "refused", .str c], .tup [.str "refused", .str c], .tup [.str "refused", .str c], .tup [.str "refused", .str c]]) (h ++ [.lst [.tup [.str "refused", .str c], .tup [.str "refused", .str c], .tup [.str "refused", .str c], .tup [.str "refused", .str c], .tup [.str "refused", .str c], .tup [.str "refused", .str c]]]) = .ok false (h ++ [.lst [.tup [.str "refused", .str c], .tup [.str "refused", .str c], .tup [.str "refused", .str c], .tup [.str "refused", .str c], .tup [.str "refused", .str c], .tup [.str "refused", .str c]]]) := ne_made (t := tolD c) rfl hc (n := 6)
theorem ne_made7 {c : Str} (hc : PyData.strOk c = true) : cmpM .NotEq (.ref h.length) (.lst [.tup [.str "refused", .str c], .tup [.str "refused", .str c], .tup [.str "refused", .str c], .tup [.str "refused", .str c], .tup [.str "refused", .str c], .tup [.str "refused", .str c], .tup [.str "refused", .str c]]) (h ++ [.lst [.tup [.str "refused", .str c], .tup [.str "refused", .str c], .tup [.str "refused", .str c], .tup [.str "refused", .str c], .tup [.str "refused", .str c], .tup [.str "refused", .str c], .tup [.str "refused", .str c]]]) = .ok false (h ++ [.lst [.tup [.str "refused", .str c], .tup [.str "refused", .str c], .tup [.str "refused", .str c], .tup [.str "refused", .str c], .tup [.str "refused", .str c], .tup [.str "refused", .str c], .tup [.str "refused", .str c]]]) := ne_made (t := tolD c) rfl hc (n := 7)
theorem ne_made8 {c : Str} (hc : PyData.strOk c = true) : cmpM .NotEq (.ref h.length) (.lst [.tup [.str "refused", .str c], .tup [.str "refused", .str c], .tup [.str "refused", .str c], .tup [.str "refused", .str c], .tup [.str "refused", .str c], .tup [.str "refused", .str c], .tup [.str "refused", .str c], .tup [.str "refused", .str c]]) (h ++ [.lst [.tup [.str "refused", .str c], .tup [.str "refused", .str c], .tup [.str "refused", .str c], .tup [.str "refused", .str c], .tup [.str "refused", .str c], .tup [.str "refused", .str c], .tup [.str "refused", .str c], .tup [.str "refused", .str c]]]) = .ok false (h ++ [.lst [.tup [.str "refused", .str c], .tup [.str "refused", .str c], .tup [.str "refused", .str c], .tup [.str "refused", .str c], .tup [.str "refused", .str c], .tup [.str "refused", .str c], .tup [.str "refused", .str c], .tup [.str "refused", .str c]]]) := ne_made (t := tolD c) rfl hc (n := 8)
theorem ne_made9 {c : Str} (hc : PyData.strOk c = true) : cmpM .NotEq (.ref h.length) (.lst [.tup [.str "refused", .str c], .tup [.str "refused", .str c], .tup [.str "refused", .str c], .tup [.str "refused", .str c], .tup [.str "refused", .str c], .tup [.str "refused", .str c], .tup [.str "refused", .str c], .tup [.str "refused", .str c], .tup [.str "refused", .str c]]) (h ++ [.lst [.tup [.str "refused", .str c], .tup [.str "refused", .str c], .tup [.str "refused", .str c], .tup [.str "refused", .str c], .tup [.str "refused", .str c], .tup [.str "refused", .str c], .tup [.str "refused", .str c], .tup [.str "refused", .str c], .tup [.str "refused", .str c]]]) = .ok false (h ++ [.lst [.tup [.str "refused", .str c], .tup [.str "refused", .str c], .tup [.str "refused", .str c], .tup [.str "refused", .str c], .tup [.str "refused", .str c], .tup [.str "refused", .str c], .tup [.str "refused", .str c], .tup [.str "refused", .str c], .tup [.str "refused", .str c]]]) := ne_made (t := tolD c) rfl hc (n := 9)
theorem mul_l2 {t : D} : binM .Mult false (.lst [t]) (.int 2) = pure (.lst [t, t]) := rfl
theorem mul_l3 {t : D} : binM .Mult false (.lst [t]) (.int 3) = pure (.lst [t, t, t]) := rfl
theorem mul_l4 {t : D} : binM .Mult false (.lst [t]) (.int 4) = pure (.lst [t, t, t, t]) := rfl
theorem mul_l5 {t : D} : binM .Mult false (.lst [t]) (.int 5) = pure (.lst [t, t, t, t, t]) := rfl
theorem mul_l6 {t : D} : binM .Mult false (.lst [t]) (.int 6) = pure (.lst [t, t, t, t, t, t]) := rfl
theorem mul_l7 {t : D} : binM .Mult false (.lst [t]) (.int 7) = pure (.lst [t, t, t, t, t, t, t]) := rfl
theorem mul_l8 {t : D} : binM .Mult false (.lst [t]) (.int 8) = pure (.lst [t, t, t, t, t, t, t, t]) := rfl
theorem mul_l9 {t : D} : binM .Mult false (.lst [t]) (.int 9) = pure (.lst [t, t, t, t, t, t, t, t, t]) := rfl

end
end Cr
set_option Elab.async false
set_option linter.all false
set_option maxRecDepth 100000
set_option maxHeartbeats 1000000
/-! What was known by depths. -/
namespace Cr
open PySem
/-- one more step: what the last of these had read -/
def gK (A B : List Int) (s : Nat) (m : Int) : Int := if m = 0 then 0 else (bun A B (1 - s)).getD (m.toNat - 1) 0
def knF (A B : List Int) : Nat → Nat → Int → Int
  | 0, _, m => m
  | d + 1, s, m => knF A B d (1 - s) (gK A B s m)
def kn (A B : List Int) (p : Nat × Nat) (d : Nat) : Int := knF A B d p.1 ((bun A B p.1).getD p.2 0)
theorem gK_0 {A B : List Int} {s : Nat} : gK A B s 0 = 0 := if_pos rfl
theorem knF_0 {A B : List Int} : ∀ {d s : Nat}, knF A B d s 0 = 0
  | 0, _ => rfl
  | d + 1, s => by show knF A B d (1 - s) (gK A B s 0) = 0; rw [gK_0, knF_0]
/-- the side after d steps -/
def sdK (s : Nat) : Nat → Nat
  | 0 => s
  | d + 1 => 1 - sdK s d
theorem sdK_s {s : Nat} : ∀ d, sdK (1 - s) d = sdK s (d + 1)
  | 0 => rfl
  | d + 1 => by show 1 - sdK (1 - s) d = 1 - sdK s (d + 1); rw [sdK_s d]
theorem sdK_two {s : Nat} (h : s < 2) : ∀ d, sdK s d < 2
  | 0 => h
  | d + 1 => by show 1 - sdK s d < 2; omega
theorem knF_s {A B : List Int} : ∀ {d s : Nat} {m : Int}, knF A B (d + 1) s m = gK A B (sdK s d) (knF A B d s m)
  | 0, _, _ => rfl
  | d + 1, s, m => by
    show knF A B (d + 1) (1 - s) (gK A B s m) = _
    rw [knF_s (d := d) (s := 1 - s), sdK_s]
    rfl
theorem kn_s {A B : List Int} {p : Nat × Nat} {d : Nat} : kn A B p (d + 1) = gK A B (sdK p.1 d) (kn A B p d) := knF_s
section
variable {A B : List Int}
theorem bun_0 : bun A B 0 = A := rfl
theorem bun_1 : bun A B 1 = B := rfl
theorem bun_at (hm : IsMail A B) {s i : Nat} (hs : s < 2) (hi : i < (bun A B s).length) : 0 ≤ (bun A B s).getD i 0 ∧ (bun A B s).getD i 0 ≤ ((bun A B (1 - s)).length : Int) := by
  match s, hs with
  | 0, _ => exact hm.at_a hi
  | 1, _ => exact hm.at_b hi
theorem gK_ok (hm : IsMail A B) {s : Nat} (hs : s < 2) {m : Int} (h0 : 0 ≤ m) (h1 : m ≤ ((bun A B (1 - s)).length : Int)) : 0 ≤ gK A B s m ∧ gK A B s m ≤ ((bun A B s).length : Int) := by
  unfold gK
  split
  · exact ⟨Int.le_refl _, by omega⟩
  · have := bun_at hm (s := 1 - s) (i := m.toNat - 1) (by omega) (by omega)
    rwa [show 1 - (1 - s) = s by omega] at this
theorem kn_ok (hm : IsMail A B) {p : Nat × Nat} (hp : p ∈ lets A.length B.length) : ∀ d, 0 ≤ kn A B p d ∧ kn A B p d ≤ ((bun A B (1 - sdK p.1 d)).length : Int)
  | 0 => by
    obtain ⟨h1, h2⟩ := mem_lets' hp
    exact bun_at hm h1 h2
  | d + 1 => by
    obtain ⟨h1, _⟩ := mem_lets' hp
    obtain ⟨q1, q2⟩ := kn_ok hm hp d
    have t := sdK_two h1 d
    rw [kn_s]
    have := gK_ok hm t q1 q2
    show _ ∧ _ ≤ ((bun A B (1 - (1 - sdK p.1 d))).length : Int)
    rwa [show 1 - (1 - sdK p.1 d) = sdK p.1 d by omega]
theorem barr_bun (hb : barr A B = []) {s i j : Nat} (hs : s < 2) (hi : i < (bun A B s).length) (hj : j < (bun A B (1 - s)).length) : ¬ ((j : Int) < (bun A B s).getD i 0 ∧ (i : Int) < (bun A B (1 - s)).getD j 0) := by
  match s, hs with
  | 0, _ => exact barr_iff.mp hb i j hi hj
  | 1, _ => exact fun ⟨h1, h2⟩ => barr_iff.mp hb j i hj hi ⟨h2, h1⟩
theorem gK_two (hm : IsMail A B) (hb : barr A B = []) {s : Nat} (hs : s < 2) {m : Int} (h0 : 0 ≤ m) (h1 : m ≤ ((bun A B (1 - s)).length : Int)) (hp : 0 < gK A B (1 - s) (gK A B s m)) : gK A B (1 - s) (gK A B s m) < m := by
  have q := gK_ok hm hs h0 h1
  by_cases z : m = 0
  · subst z
    rw [gK_0, gK_0] at hp
    omega
  · have e1 : gK A B s m = (bun A B (1 - s)).getD (m.toNat - 1) 0 := if_neg z
    by_cases z2 : gK A B s m = 0
    · rw [z2, gK_0] at hp
      omega
    · have e2 : gK A B (1 - s) (gK A B s m) = (bun A B s).getD ((gK A B s m).toNat - 1) 0 := by
        rw [gK, if_neg z2, show 1 - (1 - s) = s by omega]
      have := barr_bun hb hs (i := (gK A B s m).toNat - 1) (j := m.toNat - 1) (by omega) (by omega)
      rw [← e1, ← e2] at this
      omega
theorem kn_two (hm : IsMail A B) (hb : barr A B = []) {p : Nat × Nat} (hp : p ∈ lets A.length B.length) {d : Nat} (h : 0 < kn A B p (d + 2)) : kn A B p (d + 2) < kn A B p d := by
  have q := kn_ok hm hp d
  have t := sdK_two (mem_lets' hp).1 d
  rw [show d + 2 = (d + 1) + 1 from rfl, kn_s, kn_s] at h ⊢
  exact gK_two hm hb t q.1 q.2 h
theorem kn_stop {p : Nat × Nat} {d : Nat} (h : ¬ 0 < kn A B p d) (h0 : 0 ≤ kn A B p d) : kn A B p (d + 1) = 0 := by
  rw [kn_s, show kn A B p d = 0 by omega, gK_0]
/-- one more: the last of these, by one less -/
theorem kn_next {p : Nat × Nat} {d : Nat} : kn A B p (d + 1) = if kn A B p 0 = 0 then 0 else kn A B (1 - p.1, (kn A B p 0).toNat - 1) d := by
  show knF A B d (1 - p.1) (gK A B p.1 (kn A B p 0)) = _
  split
  · rename_i h
    rw [h, gK_0, knF_0]
  · rename_i h
    unfold gK
    rw [if_neg h]
    rfl
end
/-- those above 0 come first -/
theorem filter_low {t : Nat → Bool} (h : ∀ d, t d = false → t (d + 1) = false) : ∀ n, ∃ m, m ≤ n ∧ (List.range n).filter t = List.range m ∧ (m < n → t m = false)
  | 0 => ⟨0, Nat.le_refl _, rfl, fun z => absurd z (Nat.lt_irrefl _)⟩
  | n + 1 => by
    obtain ⟨m, h1, h2, h3⟩ := filter_low h n
    rw [List.range_succ, List.filter_append, h2]
    by_cases q : m < n
    · have : t n = false := by
        have := h3 q
        clear h2
        have key : ∀ j, t (m + j) = false := fun j => by
          induction j with
          | zero => exact this
          | succ j ih => exact h _ ih
        have := key (n - m)
        rwa [show m + (n - m) = n by omega] at this
      refine ⟨m, by omega, ?_, fun _ => h3 q⟩
      simp [this]
    · have e : m = n := by omega
      subst e
      cases z : t m with
      | true => exact ⟨m + 1, Nat.le_refl _, by simp [z, List.range_succ], fun q => absurd q (Nat.lt_irrefl _)⟩
      | false => exact ⟨m, by omega, by simp [z], fun _ => z⟩
structure HKnow (P : Prog) (fl ms : List (Str × Str)) : Prop where
  known : P.has ("known", none) 3 4 (S_known fl ms)
  knows : P.has ("knows", none) 3 0 (S_knows fl ms)
  deepest : P.has ("deepest", none) 2 2 (S_deepest fl ms)
section
variable {P : Prog} {fl ms : List (Str × Str)} {k : Nat} {A B : List Int}
theorem known_loop {o : Ora} (hm : IsMail A B) {x1 x2 : D} {x6 : Option D} {h : AH} : ∀ (l : List D) (s : Nat) (m : Int) (v4 : Option D), s < 2 → 0 ≤ m → m ≤ ((bun A B (1 - s)).length : Int) →
    andS (forFix (turnS (stN 4) (L1_known fl ms o)) l [some (mailD A B), some x1, some x2, some (.int m), v4, some (.int s), x6] h) (seqS (fun ρ => liftE (getV ρ 3) ρ fun d h => .ret d h) fun ρ h => .next ρ h) = .ret (.int (knF A B l.length s m)) h
  | [], s, m, v4, hs, h0, h1 => by
    show andS (.next _ _) _ = _
    simp only [andS_id, ↓sy_any, ↓lift_at, ↓bind_at, ↓told_at, ↓ite_at, ↓nox_eq, noxR_ok, turnC_eq, wipeE, comp_2, comp_1, comp_0, Option.toList, or_and, or_or, and_and, sx_turnN, sx_turn, loop_fix, pure_at, raise_at, andM_ok, andM_exc, andR_ok, andR_exc, andS_next, andS_ret, andS_exc, endR_next, endR_ret, endR_exc, end_at, toldR_ok, getV_0, getV_s, stN_eq, stT2, stT3, stT_pr, List.set_cons_zero, List.set_cons_succ, List.map_cons, List.map_nil, List.replicate, List.cons_append, List.nil_append, List.append_nil, tupM_0, tupM_1, tupM_2, tupM_3, dispM_0, newL_f, asBool_bl, part_int, neg_int, cmp_lt, cmp_le, cmp_gt, cmp_ge, cmp_eq, cmp_ne, bin_add, bin_sub, len_tup, len_lst, idx_t0, idx_t1, idx_l0, idx_l1, it_tup, it_lst, ↓reduceIte, Bool.false_eq_true, Bool.not_true, Bool.not_false, decide_true, decide_false]
    rfl
  | d :: l, s, m, v4, hs, h0, h1 => by
    have e : forFix (turnS (stN 4) (L1_known fl ms o)) (d :: l) [some (mailD A B), some x1, some x2, some (.int m), v4, some (.int s), x6] h = match turnS (stN 4) (L1_known fl ms o) d [some (mailD A B), some x1, some x2, some (.int m), v4, some (.int s), x6] h with
      | .next ρ' h' => forFix (turnS (stN 4) (L1_known fl ms o)) l ρ' h'
      | .cont ρ' h' => forFix (turnS (stN 4) (L1_known fl ms o)) l ρ' h'
      | .brk ρ' h' => .next ρ' h'
      | x => x := rfl
    rw [e]
    by_cases z : m = 0
    · have st : turnS (stN 4) (L1_known fl ms o) d [some (mailD A B), some x1, some x2, some (.int m), v4, some (.int s), x6] h = .ret (.int 0) h := by
        unfold L1_known
        simp only [andS_id, ↓sy_any, ↓lift_at, ↓bind_at, ↓told_at, ↓ite_at, ↓nox_eq, noxR_ok, turnC_eq, wipeE, comp_2, comp_1, comp_0, Option.toList, or_and, or_or, and_and, sx_turnN, sx_turn, loop_fix, pure_at, raise_at, andM_ok, andM_exc, andR_ok, andR_exc, andS_next, andS_ret, andS_exc, endR_next, endR_ret, endR_exc, end_at, toldR_ok, getV_0, getV_s, stN_eq, stT2, stT3, stT_pr, List.set_cons_zero, List.set_cons_succ, List.map_cons, List.map_nil, List.replicate, List.cons_append, List.nil_append, List.append_nil, tupM_0, tupM_1, tupM_2, tupM_3, dispM_0, newL_f, asBool_bl, part_int, neg_int, cmp_lt, cmp_le, cmp_gt, cmp_ge, cmp_eq, cmp_ne, bin_add, bin_sub, len_tup, len_lst, idx_t0, idx_t1, idx_l0, idx_l1, it_tup, it_lst, ↓reduceIte, Bool.false_eq_true, Bool.not_true, Bool.not_false, decide_true, decide_false, z]
      rw [st, z, knF_0]
      rfl
    · have g := gK_ok hm hs h0 h1
      have st : turnS (stN 4) (L1_known fl ms o) d [some (mailD A B), some x1, some x2, some (.int m), v4, some (.int s), x6] h = .next [some (mailD A B), some x1, some x2, some (.int (gK A B s m)), some d, some (.int ((1 - s : Nat) : Int)), x6] h := by
        have e1 : (1 : Int) - (s : Int) = ((1 - s : Nat) : Int) := by omega
        have e2 : m - 1 = ((m.toNat - 1 : Nat) : Int) := by omega
        have e3 : gK A B s m = (bun A B (1 - s)).getD (m.toNat - 1) 0 := if_neg z
        unfold L1_known
        simp only [andS_id, ↓sy_any, ↓lift_at, ↓bind_at, ↓told_at, ↓ite_at, ↓nox_eq, noxR_ok, turnC_eq, wipeE, comp_2, comp_1, comp_0, Option.toList, or_and, or_or, and_and, sx_turnN, sx_turn, loop_fix, pure_at, raise_at, andM_ok, andM_exc, andR_ok, andR_exc, andS_next, andS_ret, andS_exc, endR_next, endR_ret, endR_exc, end_at, toldR_ok, getV_0, getV_s, stN_eq, stT2, stT3, stT_pr, List.set_cons_zero, List.set_cons_succ, List.map_cons, List.map_nil, List.replicate, List.cons_append, List.nil_append, List.append_nil, tupM_0, tupM_1, tupM_2, tupM_3, dispM_0, newL_f, asBool_bl, part_int, neg_int, cmp_lt, cmp_le, cmp_gt, cmp_ge, cmp_eq, cmp_ne, bin_add, bin_sub, len_tup, len_lst, idx_t0, idx_t1, idx_l0, idx_l1, it_tup, it_lst, ↓reduceIte, Bool.false_eq_true, Bool.not_true, Bool.not_false, decide_true, decide_false, z, e1, idx_mail (show 1 - s < 2 by omega), e2, idx_bun (show m.toNat - 1 < (bun A B (1 - s)).length by omega), e3]
      rw [st]
      exact known_loop hm l (1 - s) (gK A B s m) (some d) (by omega) g.1 (by rw [show 1 - (1 - s) = s by omega]; exact g.2)
theorem known_eq (Kh : HKnow P fl ms) (hm : IsMail A B) {p : Nat × Nat} (hp : p ∈ lets A.length B.length) {d : Nat} (hd : d ≤ 1000) : run P (k + 1) ("known", none) [mailD A B, prD p, .int d] = pure (.int (kn A B p d)) := by
  obtain ⟨h1, h2⟩ := mem_lets' hp
  have b := bun_at hm h1 h2
  rw [Kh.known k _ rfl, bodyM_F]
  funext h
  unfold S_known
  simp only [andS_id, ↓sy_any, ↓lift_at, ↓bind_at, ↓told_at, ↓ite_at, ↓nox_eq, noxR_ok, turnC_eq, wipeE, comp_2, comp_1, comp_0, Option.toList, or_and, or_or, and_and, sx_turnN, sx_turn, loop_fix, pure_at, raise_at, andM_ok, andM_exc, andR_ok, andR_exc, andS_next, andS_ret, andS_exc, endR_next, endR_ret, endR_exc, end_at, toldR_ok, getV_0, getV_s, stN_eq, stT2, stT3, stT_pr, List.set_cons_zero, List.set_cons_succ, List.map_cons, List.map_nil, List.replicate, List.cons_append, List.nil_append, List.append_nil, tupM_0, tupM_1, tupM_2, tupM_3, dispM_0, newL_f, asBool_bl, part_int, neg_int, cmp_lt, cmp_le, cmp_gt, cmp_ge, cmp_eq, cmp_ne, bin_add, bin_sub, len_tup, len_lst, idx_t0, idx_t1, idx_l0, idx_l1, it_tup, it_lst, ↓reduceIte, Bool.false_eq_true, Bool.not_true, Bool.not_false, decide_true, decide_false, idx_mail h1, idx_bun h2, rng_nat (n := d) (by omega)]
  have := known_loop (fl := fl) (ms := ms) (o := run P k) hm (x1 := prD p) (x2 := .int d) (x6 := some (.int p.2)) (h := h) ((List.range d).map fun (k : Nat) => .int k) p.1 _ none h1 b.1 b.2
  rw [this]
  simp [endR, kn, pure_at]
theorem knows_eq (Mh : HMail P fl ms) (L : HLet P fl ms) (W : HBar P fl ms) (hN : P.has ("need_there", none) 1 0 (S_need_there fl ms)) (Kh : HKnow P fl ms) (hm : IsMail A B) (hb : barr A B = []) {p : Nat × Nat} (hp : p ∈ lets A.length B.length) {d : Nat} (hd : d ≤ 20) :
    run P (k + 5) ("knows", none) [mailD A B, prD p, .int d] = pure (.int (kn A B p d)) := by
  show run P ((k + 4) + 1) _ _ = _
  rw [Kh.knows (k + 4) _ rfl, bodyM_F]
  funext h
  have hw : whoB (.int d) 0 20 = true := by simp [whoB]; omega
  unfold S_knows
  simp only [andS_id, ↓sy_any, ↓lift_at, ↓bind_at, ↓told_at, ↓ite_at, ↓nox_eq, noxR_ok, turnC_eq, wipeE, comp_2, comp_1, comp_0, Option.toList, or_and, or_or, and_and, sx_turnN, sx_turn, loop_fix, pure_at, raise_at, andM_ok, andM_exc, andR_ok, andR_exc, andS_next, andS_ret, andS_exc, endR_next, endR_ret, endR_exc, end_at, toldR_ok, getV_0, getV_s, stN_eq, stT2, stT3, stT_pr, List.set_cons_zero, List.set_cons_succ, List.map_cons, List.map_nil, List.replicate, List.cons_append, List.nil_append, List.append_nil, tupM_0, tupM_1, tupM_2, tupM_3, dispM_0, newL_f, asBool_bl, part_int, neg_int, cmp_lt, cmp_le, cmp_gt, cmp_ge, cmp_eq, cmp_ne, bin_add, bin_sub, len_tup, len_lst, idx_t0, idx_t1, idx_l0, idx_l1, it_tup, it_lst, ↓reduceIte, Bool.false_eq_true, Bool.not_true, Bool.not_false, decide_true, decide_false, need_mail_ok Mh hm, need_letter_ok Mh L (k := k + 1) hp, is_whole_any Mh.is_whole (d := .int d) (k := k + 3) rfl, hw, need_there_eq W hN hm.la hm.lb, if_pos hb, known_eq Kh hm hp (k := k + 3) (d := d) (by omega)]
theorem knows_no (Mh : HMail P fl ms) (L : HLet P fl ms) (W : HBar P fl ms) (hN : P.has ("need_there", none) 1 0 (S_need_there fl ms)) (Kh : HKnow P fl ms) (hm : IsMail A B) (hb : barr A B ≠ []) {p : Nat × Nat} (hp : p ∈ lets A.length B.length) :
    run P (k + 5) ("knows", none) [mailD A B, prD p, .int 1] = M.raise "Nothing" := by
  show run P ((k + 4) + 1) _ _ = _
  rw [Kh.knows (k + 4) _ rfl, bodyM_F]
  funext h
  have hw : whoB (.int 1) 0 20 = true := by simp [whoB]
  unfold S_knows
  simp only [andS_id, ↓sy_any, ↓lift_at, ↓bind_at, ↓told_at, ↓ite_at, ↓nox_eq, noxR_ok, turnC_eq, wipeE, comp_2, comp_1, comp_0, Option.toList, or_and, or_or, and_and, sx_turnN, sx_turn, loop_fix, pure_at, raise_at, andM_ok, andM_exc, andR_ok, andR_exc, andS_next, andS_ret, andS_exc, endR_next, endR_ret, endR_exc, end_at, toldR_ok, getV_0, getV_s, stN_eq, stT2, stT3, stT_pr, List.set_cons_zero, List.set_cons_succ, List.map_cons, List.map_nil, List.replicate, List.cons_append, List.nil_append, List.append_nil, tupM_0, tupM_1, tupM_2, tupM_3, dispM_0, newL_f, asBool_bl, part_int, neg_int, cmp_lt, cmp_le, cmp_gt, cmp_ge, cmp_eq, cmp_ne, bin_add, bin_sub, len_tup, len_lst, idx_t0, idx_t1, idx_l0, idx_l1, it_tup, it_lst, ↓reduceIte, Bool.false_eq_true, Bool.not_true, Bool.not_false, decide_true, decide_false, need_mail_ok Mh hm, need_letter_ok Mh L (k := k + 1) hp, is_whole_any Mh.is_whole (d := .int 1) (k := k + 3) rfl, hw, need_there_eq W hN hm.la hm.lb, if_neg hb]
theorem knows_num (Mh : HMail P fl ms) (L : HLet P fl ms) (Kh : HKnow P fl ms) (hm : IsMail A B) {p : Nat × Nat} (hp : p ∈ lets A.length B.length) {d : D} (hd : flat d = true) (hw : whoB d 0 20 = false) :
    run P (k + 5) ("knows", none) [mailD A B, prD p, d] = M.raise "BadNumber" := by
  show run P ((k + 4) + 1) _ _ = _
  rw [Kh.knows (k + 4) _ rfl, bodyM_F]
  funext h
  unfold S_knows
  simp only [andS_id, ↓sy_any, ↓lift_at, ↓bind_at, ↓told_at, ↓ite_at, ↓nox_eq, noxR_ok, turnC_eq, wipeE, comp_2, comp_1, comp_0, Option.toList, or_and, or_or, and_and, sx_turnN, sx_turn, loop_fix, pure_at, raise_at, andM_ok, andM_exc, andR_ok, andR_exc, andS_next, andS_ret, andS_exc, endR_next, endR_ret, endR_exc, end_at, toldR_ok, getV_0, getV_s, stN_eq, stT2, stT3, stT_pr, List.set_cons_zero, List.set_cons_succ, List.map_cons, List.map_nil, List.replicate, List.cons_append, List.nil_append, List.append_nil, tupM_0, tupM_1, tupM_2, tupM_3, dispM_0, newL_f, asBool_bl, part_int, neg_int, cmp_lt, cmp_le, cmp_gt, cmp_ge, cmp_eq, cmp_ne, bin_add, bin_sub, len_tup, len_lst, idx_t0, idx_t1, idx_l0, idx_l1, it_tup, it_lst, ↓reduceIte, Bool.false_eq_true, Bool.not_true, Bool.not_false, decide_true, decide_false, need_mail_ok Mh hm, need_letter_ok Mh L (k := k + 1) hp, is_whole_any Mh.is_whole (k := k + 3) hd, hw]
theorem knows_let (Mh : HMail P fl ms) (L : HLet P fl ms) (Kh : HKnow P fl ms) (hm : IsMail A B) {d e : D} (hd : okL d) (hb : letB A.length B.length d = false) :
    run P (k + 5) ("knows", none) [mailD A B, d, e] = M.raise "BadLetter" := by
  show run P ((k + 4) + 1) _ _ = _
  rw [Kh.knows (k + 4) _ rfl, bodyM_F]
  funext h
  unfold S_knows
  simp only [andS_id, ↓sy_any, ↓lift_at, ↓bind_at, ↓told_at, ↓ite_at, ↓nox_eq, noxR_ok, turnC_eq, wipeE, comp_2, comp_1, comp_0, Option.toList, or_and, or_or, and_and, sx_turnN, sx_turn, loop_fix, pure_at, raise_at, andM_ok, andM_exc, andR_ok, andR_exc, andS_next, andS_ret, andS_exc, endR_next, endR_ret, endR_exc, end_at, toldR_ok, getV_0, getV_s, stN_eq, stT2, stT3, stT_pr, List.set_cons_zero, List.set_cons_succ, List.map_cons, List.map_nil, List.replicate, List.cons_append, List.nil_append, List.append_nil, tupM_0, tupM_1, tupM_2, tupM_3, dispM_0, newL_f, asBool_bl, part_int, neg_int, cmp_lt, cmp_le, cmp_gt, cmp_ge, cmp_eq, cmp_ne, bin_add, bin_sub, len_tup, len_lst, idx_t0, idx_t1, idx_l0, idx_l1, it_tup, it_lst, ↓reduceIte, Bool.false_eq_true, Bool.not_true, Bool.not_false, decide_true, decide_false, need_mail_ok Mh hm, need_letter_bad Mh L (k := k + 1) hd hb]
/-- the depths above 0 -/
def dpK (A B : List Int) (p : Nat × Nat) : List Nat := (List.range 21).filter fun d => decide (0 < kn A B p d)
theorem dpK_low (hm : IsMail A B) {p : Nat × Nat} (hp : p ∈ lets A.length B.length) : ∃ m, m ≤ 21 ∧ dpK A B p = List.range m := by
  obtain ⟨m, h1, h2, _⟩ := filter_low (t := fun d => decide (0 < kn A B p d)) (fun d h => by
    have h := of_decide_eq_false h
    have := kn_stop h (kn_ok hm hp d).1
    rw [this]
    rfl) 21
  exact ⟨m, h1, h2⟩
theorem maxF_range : ∀ (n : Nat), maxF 0 ((List.range n).map fun (i : Nat) => ((i + 1 : Nat) : Int)) = (n : Int)
  | 0 => rfl
  | n + 1 => by
    have ih := maxF_range n
    unfold maxF at ih ⊢
    rw [List.range_succ, List.map_append, List.foldl_append, ih]
    simp
    omega
theorem def_range {n : Nat} : b_defM maxF (.lst ((List.range n).map fun (i : Nat) => .int i)) .non = pure (if n = 0 then .non else .int ((n : Int) - 1)) := by
  funext h
  have e1 : intsD ((List.range n).map fun (i : Nat) => D.int i) = some ((List.range n).map fun (i : Nat) => (i : Int)) := by
    unfold intsD
    rw [List.mapM_map]
    generalize List.range n = l
    induction l with
    | nil => rfl
    | cons a l ih => rw [List.mapM_cons, ih]; rfl
  show (match intsD ((List.range n).map fun (i : Nat) => D.int i) with | some [] => pure .non | some (x :: r) => pure (.int (maxF x r)) | none => M.stuck : M D) h = _
  rw [e1]
  cases n with
  | zero => rfl
  | succ n =>
    rw [List.range_succ_eq_map, List.map_cons, List.map_map]
    show (pure (.int (maxF 0 ((List.range n).map fun (i : Nat) => ((i + 1 : Nat) : Int)))) : M D) h = _
    rw [maxF_range, if_neg (by omega)]
    show Cr.R.ok (D.int _) h = Cr.R.ok (D.int _) h
    congr 2
    omega
theorem deepest_eq (Mh : HMail P fl ms) (L : HLet P fl ms) (W : HBar P fl ms) (hN : P.has ("need_there", none) 1 0 (S_need_there fl ms)) (Kh : HKnow P fl ms) (hm : IsMail A B) (hb : barr A B = []) {p : Nat × Nat} (hp : p ∈ lets A.length B.length) {n : Nat} (hn : dpK A B p = List.range n) :
    run P (k + 5) ("deepest", none) [mailD A B, prD p] = pure (if n = 0 then .non else .int ((n : Int) - 1)) := by
  show run P ((k + 4) + 1) _ _ = _
  rw [Kh.deepest (k + 4) _ rfl, bodyM_F]
  funext h
  have c : compIt (turnC (stN 3) (fun ρ => (((getV ρ 0 >>= fun x19 => (getV ρ 1 >>= fun x21 => (getV ρ 3 >>= fun x23 => pure [] >>= fun l24 => pure (x23 :: l24)) >>= fun l22 => pure (x21 :: l22)) >>= fun l20 => pure (x19 :: l20)) >>= fun l18 => run P (k + 4) ("known", none) l18) >>= fun x15 => pure (.int 0) >>= fun y16 => cmpM .Gt x15 y16)) (fun ρ => getV ρ 3) [some (mailD A B), some (prD p), none, none]) (.fix ((List.range 21).map fun (k : Nat) => .int k)) = pure ((List.range n).map fun (i : Nat) => .int i) := by
    rw [comp_if (t := fun d => decide (0 < kn A B p d)) (F := fun (i : Nat) => D.int i) (g := id) (fun d hd => by
      have := List.mem_range.mp hd
      rw [turnC_eq]
      simp only [stN_eq, pure_bind, bind_assoc, List.set_cons_zero, List.set_cons_succ, getV_0, getV_s, known_eq Kh hm hp (k := k + 3) (d := d) (by omega), cmp_gt]
      by_cases z : 0 < kn A B p d <;> simp [z])]
    rw [show (List.range 21).filter (fun d => decide (0 < kn A B p d)) = List.range n from hn, List.map_id]
  unfold S_deepest
  simp only [andS_id, ↓sy_any, ↓lift_at, ↓bind_at, ↓told_at, ↓ite_at, ↓nox_eq, noxR_ok, turnC_eq, wipeE, comp_2, comp_1, comp_0, Option.toList, or_and, or_or, and_and, sx_turnN, sx_turn, loop_fix, pure_at, raise_at, andM_ok, andM_exc, andR_ok, andR_exc, andS_next, andS_ret, andS_exc, endR_next, endR_ret, endR_exc, end_at, toldR_ok, getV_0, getV_s, stN_eq, stT2, stT3, stT_pr, List.set_cons_zero, List.set_cons_succ, List.map_cons, List.map_nil, List.replicate, List.cons_append, List.nil_append, List.append_nil, tupM_0, tupM_1, tupM_2, tupM_3, dispM_0, newL_f, asBool_bl, part_int, neg_int, cmp_lt, cmp_le, cmp_gt, cmp_ge, cmp_eq, cmp_ne, bin_add, bin_sub, len_tup, len_lst, idx_t0, idx_t1, idx_l0, idx_l1, it_tup, it_lst, ↓reduceIte, Bool.false_eq_true, Bool.not_true, Bool.not_false, decide_true, decide_false, need_mail_ok Mh hm, need_letter_ok Mh L (k := k + 1) hp, need_there_eq W hN hm.la hm.lb, if_pos hb, show (20 : Int) + 1 = ((21 : Nat) : Int) from rfl, rng_nat (n := 21) (by decide), c, def_range]
theorem deepest_no (Mh : HMail P fl ms) (L : HLet P fl ms) (W : HBar P fl ms) (hN : P.has ("need_there", none) 1 0 (S_need_there fl ms)) (Kh : HKnow P fl ms) (hm : IsMail A B) (hb : barr A B ≠ []) {p : Nat × Nat} (hp : p ∈ lets A.length B.length) :
    run P (k + 5) ("deepest", none) [mailD A B, prD p] = M.raise "Nothing" := by
  show run P ((k + 4) + 1) _ _ = _
  rw [Kh.deepest (k + 4) _ rfl, bodyM_F]
  funext h
  unfold S_deepest
  simp only [andS_id, ↓sy_any, ↓lift_at, ↓bind_at, ↓told_at, ↓ite_at, ↓nox_eq, noxR_ok, turnC_eq, wipeE, comp_2, comp_1, comp_0, Option.toList, or_and, or_or, and_and, sx_turnN, sx_turn, loop_fix, pure_at, raise_at, andM_ok, andM_exc, andR_ok, andR_exc, andS_next, andS_ret, andS_exc, endR_next, endR_ret, endR_exc, end_at, toldR_ok, getV_0, getV_s, stN_eq, stT2, stT3, stT_pr, List.set_cons_zero, List.set_cons_succ, List.map_cons, List.map_nil, List.replicate, List.cons_append, List.nil_append, List.append_nil, tupM_0, tupM_1, tupM_2, tupM_3, dispM_0, newL_f, asBool_bl, part_int, neg_int, cmp_lt, cmp_le, cmp_gt, cmp_ge, cmp_eq, cmp_ne, bin_add, bin_sub, len_tup, len_lst, idx_t0, idx_t1, idx_l0, idx_l1, it_tup, it_lst, ↓reduceIte, Bool.false_eq_true, Bool.not_true, Bool.not_false, decide_true, decide_false, need_mail_ok Mh hm, need_letter_ok Mh L (k := k + 1) hp, need_there_eq W hN hm.la hm.lb, if_neg hb]
theorem deepest_let (Mh : HMail P fl ms) (L : HLet P fl ms) (Kh : HKnow P fl ms) (hm : IsMail A B) {d : D} (hd : okL d) (hb : letB A.length B.length d = false) :
    run P (k + 5) ("deepest", none) [mailD A B, d] = M.raise "BadLetter" := by
  show run P ((k + 4) + 1) _ _ = _
  rw [Kh.deepest (k + 4) _ rfl, bodyM_F]
  funext h
  unfold S_deepest
  simp only [andS_id, ↓sy_any, ↓lift_at, ↓bind_at, ↓told_at, ↓ite_at, ↓nox_eq, noxR_ok, turnC_eq, wipeE, comp_2, comp_1, comp_0, Option.toList, or_and, or_or, and_and, sx_turnN, sx_turn, loop_fix, pure_at, raise_at, andM_ok, andM_exc, andR_ok, andR_exc, andS_next, andS_ret, andS_exc, endR_next, endR_ret, endR_exc, end_at, toldR_ok, getV_0, getV_s, stN_eq, stT2, stT3, stT_pr, List.set_cons_zero, List.set_cons_succ, List.map_cons, List.map_nil, List.replicate, List.cons_append, List.nil_append, List.append_nil, tupM_0, tupM_1, tupM_2, tupM_3, dispM_0, newL_f, asBool_bl, part_int, neg_int, cmp_lt, cmp_le, cmp_gt, cmp_ge, cmp_eq, cmp_ne, bin_add, bin_sub, len_tup, len_lst, idx_t0, idx_t1, idx_l0, idx_l1, it_tup, it_lst, ↓reduceIte, Bool.false_eq_true, Bool.not_true, Bool.not_false, decide_true, decide_false, need_mail_ok Mh hm, need_letter_bad Mh L (k := k + 1) hd hb]
end
end Cr
set_option Elab.async false
set_option linter.all false
set_option maxRecDepth 100000
set_option maxHeartbeats 0
namespace K17
open PySem PySem.Spec PyProof.Rows L2 Cr
def topS (i : Nat) : Stmt := PySem.Challenge.pw_crossmail_k17_whole_what_was_known.main.body.getD i (.Pass ⟨0, 0, 0, 0⟩)
def gks0 : List (Str × GK) := [("MailError", .exc), ("BadMail", .exc), ("BadLetter", .exc), ("BadNumber", .exc), ("BadOrder", .exc), ("BadPart", .exc), ("BadRough", .exc), ("BadDates", .exc), ("BadFound", .exc), ("Nothing", .exc), ("Full", .exc), ("BadText", .exc), ("MOST", .con (.int 7)), ("is_whole", .dfn), ("is_bundle", .dfn), ("is_mail", .dfn), ("need_mail", .dfn), ("is_letter", .dfn), ("need_letter", .dfn), ("all_pairs", .dfn)]
def gks1 : List (Str × GK) := [("all_barring", .dfn), ("is_there", .dfn), ("can_be", .dfn), ("need_there", .dfn), ("DEEPEST", .con (.int 20)), ("known", .dfn), ("knows", .dfn), ("deepest", .dfn), ("_law_cell", .dfn), ("_law_drawn", .dfn), ("_law_roll", .dfn), ("_law_rounds", .dfn), ("_law_told", .told), ("_law_written", .dfn), ("_law_any_mail", .dfn), ("_law_letters", .dfn), ("_law_known_right", .dfn), ("law", .dfn), ("isinstance", .blt), ("int", .blt)]
def gks2 : List (Str × GK) := [("bool", .blt), ("tuple", .blt), ("list", .blt), ("len", .blt), ("all", .blt), ("zip", .blt), ("range", .blt), ("sum", .blt), ("max", .blt), ("min", .blt), ("sorted", .blt)]
def gks : List (Str × GK) := gks0 ++ gks1 ++ gks2
def muL0 : List Pos := [⟨107, 12, 107, 37⟩, ⟨124, 85, 124, 87⟩, ⟨124, 89, 124, 91⟩, ⟨124, 94, 124, 96⟩, ⟨136, 11, 136, 13⟩, ⟨181, 19, 181, 62⟩, ⟨170, 23, 170, 66⟩]
def muL : List Pos := muL0
def flL0 : List (Str × Str) := []
def flL : List (Str × Str) := flL0
def msL0 : List (Str × Str) := []
def msL : List (Str × Str) := msL0
def dd_is_whole : DD := ⟨⟨("is_whole", none), "is_whole", "is_whole", defArgs (topS 15), defBody (topS 15), defScope (topS 15), [], []⟩, ["thing", "low", "high"], ["thing", "low", "high"]⟩
theorem ok_dd_is_whole : DOk dd_is_whole := ⟨⟨rfl, rfl, rfl, by decide +kernel, rfl, by decide +kernel, by decide +kernel⟩, fun _ _ _ _ _ _ us hl => match us, hl with | [_, _, _], _ => rfl⟩
def dd_is_bundle : DD := ⟨⟨("is_bundle", none), "is_bundle", "is_bundle", defArgs (topS 16), defBody (topS 16), defScope (topS 16), [], []⟩, ["thing", "most"], ["thing", "most", "one", "other"]⟩
theorem ok_dd_is_bundle : DOk dd_is_bundle := ⟨⟨rfl, rfl, rfl, by decide +kernel, rfl, by decide +kernel, by decide +kernel⟩, fun _ _ _ _ _ _ us hl => match us, hl with | [_, _], _ => rfl⟩
def dd_is_mail : DD := ⟨⟨("is_mail", none), "is_mail", "is_mail", defArgs (topS 17), defBody (topS 17), defScope (topS 17), [], []⟩, ["thing"], ["thing", "one"]⟩
theorem ok_dd_is_mail : DOk dd_is_mail := ⟨⟨rfl, rfl, rfl, by decide +kernel, rfl, by decide +kernel, by decide +kernel⟩, fun _ _ _ _ _ _ us hl => match us, hl with | [_], _ => rfl⟩
def dd_need_mail : DD := ⟨⟨("need_mail", none), "need_mail", "need_mail", defArgs (topS 18), defBody (topS 18), defScope (topS 18), [], []⟩, ["thing"], ["thing"]⟩
theorem ok_dd_need_mail : DOk dd_need_mail := ⟨⟨rfl, rfl, rfl, by decide +kernel, rfl, by decide +kernel, by decide +kernel⟩, fun _ _ _ _ _ _ us hl => match us, hl with | [_], _ => rfl⟩
def dd_is_letter : DD := ⟨⟨("is_letter", none), "is_letter", "is_letter", defArgs (topS 19), defBody (topS 19), defScope (topS 19), [], []⟩, ["mail", "thing"], ["mail", "thing"]⟩
theorem ok_dd_is_letter : DOk dd_is_letter := ⟨⟨rfl, rfl, rfl, by decide +kernel, rfl, by decide +kernel, by decide +kernel⟩, fun _ _ _ _ _ _ us hl => match us, hl with | [_, _], _ => rfl⟩
def dd_need_letter : DD := ⟨⟨("need_letter", none), "need_letter", "need_letter", defArgs (topS 20), defBody (topS 20), defScope (topS 20), [], []⟩, ["mail", "letter"], ["mail", "letter"]⟩
theorem ok_dd_need_letter : DOk dd_need_letter := ⟨⟨rfl, rfl, rfl, by decide +kernel, rfl, by decide +kernel, by decide +kernel⟩, fun _ _ _ _ _ _ us hl => match us, hl with | [_, _], _ => rfl⟩
def dd_all_pairs : DD := ⟨⟨("all_pairs", none), "all_pairs", "all_pairs", defArgs (topS 21), defBody (topS 21), defScope (topS 21), [], []⟩, ["mail"], ["mail", "found", "first", "second"]⟩
theorem ok_dd_all_pairs : DOk dd_all_pairs := ⟨⟨rfl, rfl, rfl, by decide +kernel, rfl, by decide +kernel, by decide +kernel⟩, fun _ _ _ _ _ _ us hl => match us, hl with | [_], _ => rfl⟩
def dd_all_barring : DD := ⟨⟨("all_barring", none), "all_barring", "all_barring", defArgs (topS 22), defBody (topS 22), defScope (topS 22), [], []⟩, ["mail"], ["mail", "some", "one", "other"]⟩
theorem ok_dd_all_barring : DOk dd_all_barring := ⟨⟨rfl, rfl, rfl, by decide +kernel, rfl, by decide +kernel, by decide +kernel⟩, fun _ _ _ _ _ _ us hl => match us, hl with | [_], _ => rfl⟩
def dd_is_there : DD := ⟨⟨("is_there", none), "is_there", "is_there", defArgs (topS 23), defBody (topS 23), defScope (topS 23), [], []⟩, ["mail"], ["mail"]⟩
theorem ok_dd_is_there : DOk dd_is_there := ⟨⟨rfl, rfl, rfl, by decide +kernel, rfl, by decide +kernel, by decide +kernel⟩, fun _ _ _ _ _ _ us hl => match us, hl with | [_], _ => rfl⟩
def dd_can_be : DD := ⟨⟨("can_be", none), "can_be", "can_be", defArgs (topS 24), defBody (topS 24), defScope (topS 24), [], []⟩, ["mail"], ["mail"]⟩
theorem ok_dd_can_be : DOk dd_can_be := ⟨⟨rfl, rfl, rfl, by decide +kernel, rfl, by decide +kernel, by decide +kernel⟩, fun _ _ _ _ _ _ us hl => match us, hl with | [_], _ => rfl⟩
def dd_need_there : DD := ⟨⟨("need_there", none), "need_there", "need_there", defArgs (topS 26), defBody (topS 26), defScope (topS 26), [], []⟩, ["mail"], ["mail"]⟩
theorem ok_dd_need_there : DOk dd_need_there := ⟨⟨rfl, rfl, rfl, by decide +kernel, rfl, by decide +kernel, by decide +kernel⟩, fun _ _ _ _ _ _ us hl => match us, hl with | [_], _ => rfl⟩
def dd_known : DD := ⟨⟨("known", none), "known", "known", defArgs (topS 29), defBody (topS 29), defScope (topS 29), [], []⟩, ["mail", "letter", "depth"], ["mail", "letter", "depth", "many", "turn", "side", "number"]⟩
theorem ok_dd_known : DOk dd_known := ⟨⟨rfl, rfl, rfl, by decide +kernel, rfl, by decide +kernel, by decide +kernel⟩, fun _ _ _ _ _ _ us hl => match us, hl with | [_, _, _], _ => rfl⟩
def dd_knows : DD := ⟨⟨("knows", none), "knows", "knows", defArgs (topS 30), defBody (topS 30), defScope (topS 30), [], []⟩, ["mail", "letter", "depth"], ["mail", "letter", "depth"]⟩
theorem ok_dd_knows : DOk dd_knows := ⟨⟨rfl, rfl, rfl, by decide +kernel, rfl, by decide +kernel, by decide +kernel⟩, fun _ _ _ _ _ _ us hl => match us, hl with | [_, _, _], _ => rfl⟩
def dd_deepest : DD := ⟨⟨("deepest", none), "deepest", "deepest", defArgs (topS 31), defBody (topS 31), defScope (topS 31), [], []⟩, ["mail", "letter"], ["mail", "letter", "some", "depth"]⟩
theorem ok_dd_deepest : DOk dd_deepest := ⟨⟨rfl, rfl, rfl, by decide +kernel, rfl, by decide +kernel, by decide +kernel⟩, fun _ _ _ _ _ _ us hl => match us, hl with | [_, _], _ => rfl⟩
def dd__law_cell : DD := ⟨⟨("_law_cell", none), "_law_cell", "_law_cell", defArgs (topS 33), defBody (topS 33), defScope (topS 33), [], []⟩, ["script", "k"], ["script", "k"]⟩
theorem ok_dd__law_cell : DOk dd__law_cell := ⟨⟨rfl, rfl, rfl, by decide +kernel, rfl, by decide +kernel, by decide +kernel⟩, fun _ _ _ _ _ _ us hl => match us, hl with | [_, _], _ => rfl⟩
def dd__law_drawn : DD := ⟨⟨("_law_drawn", none), "_law_drawn", "_law_drawn", defArgs (topS 34), defBody (topS 34), defScope (topS 34), [], []⟩, ["cell", "k"], ["cell", "k", "more"]⟩
theorem ok_dd__law_drawn : DOk dd__law_drawn := ⟨⟨rfl, rfl, rfl, by decide +kernel, rfl, by decide +kernel, by decide +kernel⟩, fun _ _ _ _ _ _ us hl => match us, hl with | [_, _], _ => rfl⟩
def dd__law_roll : DD := ⟨⟨("_law_roll", none), "_law_roll", "_law_roll", defArgs (topS 35), defBody (topS 35), defScope (topS 35), [], []⟩, ["dice", "many"], ["dice", "many", "told"]⟩
theorem ok_dd__law_roll : DOk dd__law_roll := ⟨⟨rfl, rfl, rfl, by decide +kernel, rfl, by decide +kernel, by decide +kernel⟩, fun _ _ _ _ _ _ us hl => match us, hl with | [_, _], _ => rfl⟩
def dd__law_rounds : DD := ⟨⟨("_law_rounds", none), "_law_rounds", "_law_rounds", defArgs (topS 36), defBody (topS 36), defScope (topS 36), [], []⟩, ["script", "high"], ["script", "high", "k"]⟩
theorem ok_dd__law_rounds : DOk dd__law_rounds := ⟨⟨rfl, rfl, rfl, by decide +kernel, rfl, by decide +kernel, by decide +kernel⟩, fun _ _ _ _ _ _ us hl => match us, hl with | [_, _], _ => rfl⟩
def dd__law_written : DD := ⟨⟨("_law_written", none), "_law_written", "_law_written", defArgs (topS 39), defBody (topS 39), defScope (topS 39), [], []⟩, ["dice", "first", "second"], ["dice", "first", "second", "tops", "rows", "turns", "side", "low"]⟩
theorem ok_dd__law_written : DOk dd__law_written := ⟨⟨rfl, rfl, rfl, by decide +kernel, rfl, by decide +kernel, by decide +kernel⟩, fun _ _ _ _ _ _ us hl => match us, hl with | [_, _, _], _ => rfl⟩
def dd__law_any_mail : DD := ⟨⟨("_law_any_mail", none), "_law_any_mail", "_law_any_mail", defArgs (topS 40), defBody (topS 40), defScope (topS 40), [], []⟩, ["dice", "first", "second"], ["dice", "first", "second", "rows", "side", "mail", "turns", "read"]⟩
theorem ok_dd__law_any_mail : DOk dd__law_any_mail := ⟨⟨rfl, rfl, rfl, by decide +kernel, rfl, by decide +kernel, by decide +kernel⟩, fun _ _ _ _ _ _ us hl => match us, hl with | [_, _, _], _ => rfl⟩
def dd__law_letters : DD := ⟨⟨("_law_letters", none), "_law_letters", "_law_letters", defArgs (topS 41), defBody (topS 41), defScope (topS 41), [], []⟩, ["mail"], ["mail", "at"]⟩
theorem ok_dd__law_letters : DOk dd__law_letters := ⟨⟨rfl, rfl, rfl, by decide +kernel, rfl, by decide +kernel, by decide +kernel⟩, fun _ _ _ _ _ _ us hl => match us, hl with | [_], _ => rfl⟩
def dd__law_known_right : DD := ⟨⟨("_law_known_right", none), "_law_known_right", "_law_known_right", defArgs (topS 42), defBody (topS 42), defScope (topS 42), [], []⟩, ["mail", "letter"], ["mail", "letter", "some", "depth", "above", "more", "side", "read", "own", "other", "wider"]⟩
theorem ok_dd__law_known_right : DOk dd__law_known_right := ⟨⟨rfl, rfl, rfl, by decide +kernel, rfl, by decide +kernel, by decide +kernel⟩, fun _ _ _ _ _ _ us hl => match us, hl with | [_, _], _ => rfl⟩
def dd_law : DD := ⟨⟨("law", none), "law", "law", defArgs (topS 43), defBody (topS 43), defScope (topS 43), [], []⟩, ["script"], ["script", "dice", "mail", "letters", "letter", "bad", "made"]⟩
theorem ok_dd_law : DOk dd_law := ⟨⟨rfl, rfl, rfl, by decide +kernel, rfl, by decide +kernel, by decide +kernel⟩, fun _ _ _ _ _ _ us hl => match us, hl with | [_], _ => rfl⟩
def dd__law_term : DD := ⟨⟨("_law_term", none), "_law_term", "_law_term", defArgs (topS 37), defBody (topS 37), defScope (topS 37), [], []⟩, ["e"], ["e", "flags", "kinds", "flag"]⟩
theorem ok_dd__law_term : DOk dd__law_term := ⟨⟨rfl, rfl, rfl, by decide +kernel, rfl, by decide +kernel, by decide +kernel⟩, fun _ _ _ _ _ _ us hl => match us, hl with | [_], _ => rfl⟩
def dd__law_told : DD := ⟨⟨("_law_told", none), "_law_told", "_law_told", defArgs (topS 38), defBody (topS 38), defScope (topS 38), [], []⟩, ["deed"], ["deed", "e"]⟩
theorem ok_dd__law_told : DOk dd__law_told := ⟨⟨rfl, rfl, rfl, by decide +kernel, rfl, by decide +kernel, by decide +kernel⟩, fun _ _ _ _ _ _ us hl => match us, hl with | [_], _ => rfl⟩
def dds0 : List DD := [dd_is_whole, dd_is_bundle, dd_is_mail, dd_need_mail, dd_is_letter, dd_need_letter, dd_all_pairs, dd_all_barring, dd_is_there, dd_can_be, dd_need_there, dd_known, dd_knows, dd_deepest, dd__law_cell, dd__law_drawn, dd__law_roll, dd__law_rounds, dd__law_written, dd__law_any_mail]
def dds1 : List DD := [dd__law_letters, dd__law_known_right, dd_law]
def dds : List DD := dds0 ++ dds1
theorem dds_ok : ∀ x ∈ dds, DOk x := by
  intro x hx
  simp only [dds, dds0, dds1, List.cons_append, List.nil_append, List.append_nil, List.mem_cons, List.mem_append, List.not_mem_nil, or_false, false_or] at hx
  rcases hx with rfl | rfl | rfl | rfl | rfl | rfl | rfl | rfl | rfl | rfl | rfl | rfl | rfl | rfl | rfl | rfl | rfl | rfl | rfl | rfl | rfl | rfl | rfl
  · exact ok_dd_is_whole
  · exact ok_dd_is_bundle
  · exact ok_dd_is_mail
  · exact ok_dd_need_mail
  · exact ok_dd_is_letter
  · exact ok_dd_need_letter
  · exact ok_dd_all_pairs
  · exact ok_dd_all_barring
  · exact ok_dd_is_there
  · exact ok_dd_can_be
  · exact ok_dd_need_there
  · exact ok_dd_known
  · exact ok_dd_knows
  · exact ok_dd_deepest
  · exact ok_dd__law_cell
  · exact ok_dd__law_drawn
  · exact ok_dd__law_roll
  · exact ok_dd__law_rounds
  · exact ok_dd__law_written
  · exact ok_dd__law_any_mail
  · exact ok_dd__law_letters
  · exact ok_dd__law_known_right
  · exact ok_dd_law
def lamsL : List He.Defn := [("law", none)]
def tb : Tb := ⟨gks, muL, flL, msL, dds, lamsL, true, [dd__law_term, dd__law_told]⟩
theorem tell : tb.told = true → TellD tb := fun _ => ⟨⟨dd__law_term, by simp [tb], ok_dd__law_term, rfl, rfl, rfl, ⟨108, by kernel_rfl⟩, by kernel_rfl, rfl, rfl, rfl⟩, ⟨dd__law_told, by simp [tb], ok_dd__law_told, rfl, rfl, rfl, ⟨118, by kernel_rfl⟩, by kernel_rfl, rfl, rfl, rfl⟩⟩
theorem tb_ok : tb.ok = true := by decide +kernel
def loose0 : List Str := ["MailError", "BadMail", "BadLetter", "BadNumber", "BadOrder", "BadPart", "BadRough", "BadDates", "BadFound", "Nothing", "Full", "BadText", "MOST", "is_whole", "is_bundle", "is_mail", "need_mail", "is_letter", "need_letter", "all_pairs", "all_barring", "is_there", "can_be", "need_there", "DEEPEST", "known", "knows", "deepest", "_law_cell", "_law_drawn"]
def loose1 : List Str := ["_law_roll", "_law_rounds", "_law_term", "_law_told", "_law_written", "_law_any_mail", "_law_letters", "_law_known_right", "__name__"]
def loose : List Str := loose0 ++ loose1
abbrev R : PySem.W.OpenRow := PySem.W.OpenLaw.row PySem.Challenge.rw_crossmail_k17_whole_what_was_known
abbrev hk : PySem.W.Hook := He.hookX 4 tb.fa tb.fn [] tb.lams tb.ex
def obK (s : PySem.W.SharedT) : He.AlX := He.obsX 4 tb.fa tb.fn [] tb.lams tb.ex (HandSHeadRun.getT s)
theorem obK_eq (s : PySem.W.SharedT) : obK s = hk.obs s.abs := He.obsX_eq (HandSHeadRun.getT_eq s)
theorem topRun (w : World) : HandSHeadRun.RunEq R (PySem.W.view R.prog [43]) hk obK 6000 loose w := by
  intro os
  kernel_rfl
end K17
set_option Elab.async false
set_option linter.all false
set_option maxRecDepth 100000
set_option maxHeartbeats 1000000
namespace K17
open PySem Cr
def L2_law (fl ms : List (Str × Str)) (o : Ora) : Cr.Env → AH → RS := (seqS (fun ρ => liftE ((((getV ρ 2 >>= fun x26 => pure [] >>= fun l27 => pure (x26 :: l27)) >>= fun l25 => o ("can_be", none) l25) >>= fun x24 => asBool x24) >>= fun b23 => pure (!b23)) ρ fun c22 h => if c22 then (seqS (fun ρ => liftE (((toldM ((getV ρ 2 >>= fun x33 => (getV ρ 4 >>= fun x35 => (pure (.int 1) >>= fun x37 => pure [] >>= fun l38 => pure (x37 :: l38)) >>= fun l36 => pure (x35 :: l36)) >>= fun l34 => pure (x33 :: l34)) >>= fun l32 => o ("knows", none) l32) >>= fun x30 => pure [] >>= fun l31 => pure (x30 :: l31)) >>= fun l29 => dispM true l29) >>= fun d28 => stN 6 d28 ρ) ρ fun ρ h => .next ρ h)
    (seqS (fun ρ => liftE (getV ρ 6 >>= fun x39 => methM ms o "append" x39 (toldM ((getV ρ 2 >>= fun x43 => (getV ρ 4 >>= fun x45 => pure [] >>= fun l46 => pure (x45 :: l46)) >>= fun l44 => pure (x43 :: l44)) >>= fun l42 => o ("deepest", none) l42) >>= fun x40 => pure [] >>= fun l41 => pure (x40 :: l41))) ρ fun _ h => .next ρ h)
    (seqS (fun ρ => liftE (getV ρ 6 >>= fun x48 => (((((pure (.str "refused") >>= fun x57 => (pure (.str "Nothing") >>= fun x59 => pure [] >>= fun l60 => pure (x59 :: l60)) >>= fun l58 => pure (x57 :: l58)) >>= fun l56 => tupM l56) >>= fun x54 => pure [] >>= fun l55 => pure (x54 :: l55)) >>= fun l53 => dispM false l53) >>= fun x51 => pure (.int 2) >>= fun y52 => binM .Mult false x51 y52) >>= fun y49 => cmpM .NotEq x48 y49) ρ fun c47 h => if c47 then (seqS (fun ρ => liftE (pure (.bl false)) ρ fun d h => .ret d h)
      (fun ρ h => .next ρ h)) ρ h else (fun ρ h => .next ρ h) ρ h)
    (fun ρ h => .next ρ h)))) ρ h else (seqS (fun ρ => liftE ((((getV ρ 2 >>= fun x65 => (getV ρ 4 >>= fun x67 => pure [] >>= fun l68 => pure (x67 :: l68)) >>= fun l66 => pure (x65 :: l66)) >>= fun l64 => o ("_law_known_right", none) l64) >>= fun x63 => asBool x63) >>= fun b62 => pure (!b62)) ρ fun c61 h => if c61 then (seqS (fun ρ => liftE (pure (.bl false)) ρ fun d h => .ret d h)
      (fun ρ h => .next ρ h)) ρ h else (fun ρ h => .next ρ h) ρ h)
    (fun ρ h => .next ρ h)) ρ h)
  (fun ρ h => .next ρ h))
def L4_law (fl ms : List (Str × Str)) (o : Ora) : Cr.Env → AH → RS := (seqS (fun ρ => liftE (toldM ((getV ρ 2 >>= fun x92 => (getV ρ 4 >>= fun x94 => (getV ρ 5 >>= fun x96 => pure [] >>= fun l97 => pure (x96 :: l97)) >>= fun l95 => pure (x94 :: l95)) >>= fun l93 => pure (x92 :: l93)) >>= fun l91 => o ("knows", none) l91) >>= fun x88 => ((pure (.str "refused") >>= fun x99 => (pure (.str "BadNumber") >>= fun x101 => pure [] >>= fun l102 => pure (x101 :: l102)) >>= fun l100 => pure (x99 :: l100)) >>= fun l98 => tupM l98) >>= fun y89 => cmpM .NotEq x88 y89) ρ fun c87 h => if c87 then (seqS (fun ρ => liftE (pure (.bl false)) ρ fun d h => .ret d h)
    (fun ρ h => .next ρ h)) ρ h else (fun ρ h => .next ρ h) ρ h)
  (fun ρ h => .next ρ h))
def L3_law (fl ms : List (Str × Str)) (o : Ora) : Cr.Env → AH → RS := (seqS (fun ρ => liftE ((((pure (.int 1) >>= fun x80 => negM x80) >>= fun x78 => (pure (.int 21) >>= fun x81 => (pure (.bl true) >>= fun x83 => (pure .non >>= fun x85 => pure [] >>= fun l86 => pure (x85 :: l86)) >>= fun l84 => pure (x83 :: l84)) >>= fun l82 => pure (x81 :: l82)) >>= fun l79 => pure (x78 :: l79)) >>= fun l77 => dispM false l77) >>= fun x76 => itM x76) ρ fun it75 h => loopOf (turnS (stN 5) (L4_law fl ms o)) it75 ρ h)
  (fun ρ h => .next ρ h))
def L5_law (fl ms : List (Str × Str)) (o : Ora) : Cr.Env → AH → RS := (seqS (fun ρ => liftE (((toldM ((getV ρ 2 >>= fun x129 => (getV ρ 5 >>= fun x131 => (pure .non >>= fun x133 => pure [] >>= fun l134 => pure (x133 :: l134)) >>= fun l132 => pure (x131 :: l132)) >>= fun l130 => pure (x129 :: l130)) >>= fun l128 => o ("knows", none) l128) >>= fun x126 => pure [] >>= fun l127 => pure (x126 :: l127)) >>= fun l125 => dispM true l125) >>= fun d124 => stN 6 d124 ρ) ρ fun ρ h => .next ρ h)
  (seqS (fun ρ => liftE (getV ρ 6 >>= fun x135 => methM ms o "append" x135 (toldM ((getV ρ 2 >>= fun x139 => (getV ρ 5 >>= fun x141 => pure [] >>= fun l142 => pure (x141 :: l142)) >>= fun l140 => pure (x139 :: l140)) >>= fun l138 => o ("deepest", none) l138) >>= fun x136 => pure [] >>= fun l137 => pure (x136 :: l137))) ρ fun _ h => .next ρ h)
  (seqS (fun ρ => liftE (getV ρ 6 >>= fun x144 => (((((pure (.str "refused") >>= fun x153 => (pure (.str "BadLetter") >>= fun x155 => pure [] >>= fun l156 => pure (x155 :: l156)) >>= fun l154 => pure (x153 :: l154)) >>= fun l152 => tupM l152) >>= fun x150 => pure [] >>= fun l151 => pure (x150 :: l151)) >>= fun l149 => dispM false l149) >>= fun x147 => pure (.int 2) >>= fun y148 => binM .Mult false x147 y148) >>= fun y145 => cmpM .NotEq x144 y145) ρ fun c143 h => if c143 then (seqS (fun ρ => liftE (pure (.bl false)) ρ fun d h => .ret d h)
    (fun ρ h => .next ρ h)) ρ h else (fun ρ h => .next ρ h) ρ h)
  (fun ρ h => .next ρ h))))
def L1_law (fl ms : List (Str × Str)) (o : Ora) : Cr.Env → AH → RS := (seqS (fun ρ => liftE (((getV ρ 1 >>= fun x10 => (pure (.int 7) >>= fun x12 => (pure (.int 7) >>= fun x14 => pure [] >>= fun l15 => pure (x14 :: l15)) >>= fun l13 => pure (x12 :: l13)) >>= fun l11 => pure (x10 :: l11)) >>= fun l9 => o ("_law_any_mail", none) l9) >>= fun d8 => stN 2 d8 ρ) ρ fun ρ h => .next ρ h)
  (seqS (fun ρ => liftE (((getV ρ 2 >>= fun x18 => pure [] >>= fun l19 => pure (x18 :: l19)) >>= fun l17 => o ("_law_letters", none) l17) >>= fun d16 => stN 3 d16 ρ) ρ fun ρ h => .next ρ h)
  (seqS (fun ρ => liftE (getV ρ 3 >>= fun x21 => itM x21) ρ fun it20 h => loopOf (turnS (stN 4) (L2_law fl ms o)) it20 ρ h)
  (seqS (fun ρ => liftE ((getV ρ 3 >>= fun x71 => pure none >>= fun y72 => (pure (.int 1) >>= fun x74 => partM x74) >>= fun z73 => sliceM false x71 y72 z73) >>= fun x70 => itM x70) ρ fun it69 h => loopOf (turnS (stN 4) (L3_law fl ms o)) it69 ρ h)
  (seqS (fun ρ => liftE (((pure .non >>= fun x106 => (pure (.int 5) >>= fun x108 => (((pure (.int 2) >>= fun x113 => (pure (.int 0) >>= fun x115 => pure [] >>= fun l116 => pure (x115 :: l116)) >>= fun l114 => pure (x113 :: l114)) >>= fun l112 => tupM l112) >>= fun x110 => (((pure (.int 0) >>= fun x120 => (pure (.int 9) >>= fun x122 => pure [] >>= fun l123 => pure (x122 :: l123)) >>= fun l121 => pure (x120 :: l121)) >>= fun l119 => tupM l119) >>= fun x117 => pure [] >>= fun l118 => pure (x117 :: l118)) >>= fun l111 => pure (x110 :: l111)) >>= fun l109 => pure (x108 :: l109)) >>= fun l107 => pure (x106 :: l107)) >>= fun l105 => dispM false l105) >>= fun x104 => itM x104) ρ fun it103 h => loopOf (turnS (stN 5) (L5_law fl ms o)) it103 ρ h)
  (fun ρ h => .next ρ h))))))
def S_law (fl ms : List (Str × Str)) : ClS := fun o => (seqS (fun ρ => liftE (((getV ρ 0 >>= fun x4 => (pure (.int 3) >>= fun x6 => pure [] >>= fun l7 => pure (x6 :: l7)) >>= fun l5 => pure (x4 :: l5)) >>= fun l3 => o ("_law_rounds", none) l3) >>= fun x2 => itM x2) ρ fun it1 h => loopOf (turnS (stN 1) (L1_law fl ms o)) it1 ρ h)
  (seqS (fun ρ => liftE (pure (.bl true)) ρ fun d h => .ret d h)
  (fun ρ h => .next ρ h)))
structure H (P : Prog) (fl ms : List (Str × Str)) : Prop where
  g_is_whole : P.has ("is_whole", none) 3 0 (S_is_whole fl ms)
  g_is_bundle : P.has ("is_bundle", none) 2 2 (S_is_bundle fl ms)
  g_is_mail : P.has ("is_mail", none) 1 1 (S_is_mail fl ms)
  g_need_mail : P.has ("need_mail", none) 1 0 (S_need_mail fl ms)
  g_is_letter : P.has ("is_letter", none) 2 0 (S_is_letter fl ms)
  g_need_letter : P.has ("need_letter", none) 2 0 (S_need_letter fl ms)
  g_all_pairs : P.has ("all_pairs", none) 1 3 (S_all_pairs fl ms)
  g_all_barring : P.has ("all_barring", none) 1 3 (S_all_barring fl ms)
  g_is_there : P.has ("is_there", none) 1 0 (S_is_there fl ms)
  g_can_be : P.has ("can_be", none) 1 0 (S_can_be fl ms)
  g_need_there : P.has ("need_there", none) 1 0 (S_need_there fl ms)
  g_known : P.has ("known", none) 3 4 (S_known fl ms)
  g_knows : P.has ("knows", none) 3 0 (S_knows fl ms)
  g_deepest : P.has ("deepest", none) 2 2 (S_deepest fl ms)
  g__law_cell : P.has ("_law_cell", none) 2 0 (S__law_cell fl ms)
  g__law_drawn : P.has ("_law_drawn", none) 2 1 (S__law_drawn fl ms)
  g__law_roll : P.has ("_law_roll", none) 2 1 (S__law_roll fl ms)
  g__law_rounds : P.has ("_law_rounds", none) 2 1 (S__law_rounds fl ms)
  g__law_written : P.has ("_law_written", none) 3 5 (S__law_written fl ms)
  g__law_any_mail : P.has ("_law_any_mail", none) 3 5 (S__law_any_mail fl ms)
  g__law_letters : P.has ("_law_letters", none) 1 1 (S__law_letters fl ms)
  g__law_known_right : P.has ("_law_known_right", none) 2 9 (S__law_known_right fl ms)
  g_law : P.has ("law", none) 1 6 (S_law fl ms)
theorem H.tHMail {P : Prog} {fl ms : List (Str × Str)} (H : H P fl ms) : HMail P fl ms := ⟨H.g_is_whole, H.g_is_bundle, H.g_is_mail, H.g_need_mail⟩
theorem H.tHLet {P : Prog} {fl ms : List (Str × Str)} (H : H P fl ms) : HLet P fl ms := ⟨H.g_is_letter, H.g_need_letter⟩
theorem H.tHBar {P : Prog} {fl ms : List (Str × Str)} (H : H P fl ms) : HBar P fl ms := ⟨H.g_all_pairs, H.g_all_barring, H.g_is_there⟩
theorem H.tHDice {P : Prog} {fl ms : List (Str × Str)} (H : H P fl ms) : HDice P fl ms := ⟨H.g__law_cell, H.g__law_drawn, H.g__law_roll, H.g__law_rounds⟩
end K17
set_option Elab.async false
set_option linter.all false
set_option maxRecDepth 100000
set_option maxHeartbeats 0
namespace K17
open PySem PySem.Spec PyProof.Rows L2 Cr
theorem c_is_whole : dd_is_whole.dfn.code tb.prog = some (S_is_whole flL msL) := by kernel_rfl
theorem c_is_bundle : dd_is_bundle.dfn.code tb.prog = some (S_is_bundle flL msL) := by kernel_rfl
theorem c_is_mail : dd_is_mail.dfn.code tb.prog = some (S_is_mail flL msL) := by kernel_rfl
theorem c_need_mail : dd_need_mail.dfn.code tb.prog = some (S_need_mail flL msL) := by kernel_rfl
theorem c_is_letter : dd_is_letter.dfn.code tb.prog = some (S_is_letter flL msL) := by kernel_rfl
theorem c_need_letter : dd_need_letter.dfn.code tb.prog = some (S_need_letter flL msL) := by kernel_rfl
theorem c_all_pairs : dd_all_pairs.dfn.code tb.prog = some (S_all_pairs flL msL) := by kernel_rfl
theorem c_all_barring : dd_all_barring.dfn.code tb.prog = some (S_all_barring flL msL) := by kernel_rfl
theorem c_is_there : dd_is_there.dfn.code tb.prog = some (S_is_there flL msL) := by kernel_rfl
theorem c_can_be : dd_can_be.dfn.code tb.prog = some (S_can_be flL msL) := by kernel_rfl
theorem c_need_there : dd_need_there.dfn.code tb.prog = some (S_need_there flL msL) := by kernel_rfl
theorem c_known : dd_known.dfn.code tb.prog = some (S_known flL msL) := by kernel_rfl
theorem c_knows : dd_knows.dfn.code tb.prog = some (S_knows flL msL) := by kernel_rfl
theorem c_deepest : dd_deepest.dfn.code tb.prog = some (S_deepest flL msL) := by kernel_rfl
theorem c__law_cell : dd__law_cell.dfn.code tb.prog = some (S__law_cell flL msL) := by kernel_rfl
theorem c__law_drawn : dd__law_drawn.dfn.code tb.prog = some (S__law_drawn flL msL) := by kernel_rfl
theorem c__law_roll : dd__law_roll.dfn.code tb.prog = some (S__law_roll flL msL) := by kernel_rfl
theorem c__law_rounds : dd__law_rounds.dfn.code tb.prog = some (S__law_rounds flL msL) := by kernel_rfl
theorem c__law_written : dd__law_written.dfn.code tb.prog = some (S__law_written flL msL) := by kernel_rfl
theorem c__law_any_mail : dd__law_any_mail.dfn.code tb.prog = some (S__law_any_mail flL msL) := by kernel_rfl
theorem c__law_letters : dd__law_letters.dfn.code tb.prog = some (S__law_letters flL msL) := by kernel_rfl
theorem c__law_known_right : dd__law_known_right.dfn.code tb.prog = some (S__law_known_right flL msL) := by kernel_rfl
theorem c_law : dd_law.dfn.code tb.prog = some (S_law flL msL) := by kernel_rfl
theorem hx {x : DD} {n m : Nat} {S : ClS} (hf : tb.prog.find x.d.at_ = some x.dfn) (hn : x.ps.length = n) (hm : x.N.length - n = m) (hc : x.dfn.code tb.prog = some S) : tb.prog.has x.d.at_ n m S := has_of hf hn hm hc
theorem all : H tb.prog flL msL where
  g_is_whole := hx (x := dd_is_whole) (by kernel_rfl) rfl rfl c_is_whole
  g_is_bundle := hx (x := dd_is_bundle) (by kernel_rfl) rfl rfl c_is_bundle
  g_is_mail := hx (x := dd_is_mail) (by kernel_rfl) rfl rfl c_is_mail
  g_need_mail := hx (x := dd_need_mail) (by kernel_rfl) rfl rfl c_need_mail
  g_is_letter := hx (x := dd_is_letter) (by kernel_rfl) rfl rfl c_is_letter
  g_need_letter := hx (x := dd_need_letter) (by kernel_rfl) rfl rfl c_need_letter
  g_all_pairs := hx (x := dd_all_pairs) (by kernel_rfl) rfl rfl c_all_pairs
  g_all_barring := hx (x := dd_all_barring) (by kernel_rfl) rfl rfl c_all_barring
  g_is_there := hx (x := dd_is_there) (by kernel_rfl) rfl rfl c_is_there
  g_can_be := hx (x := dd_can_be) (by kernel_rfl) rfl rfl c_can_be
  g_need_there := hx (x := dd_need_there) (by kernel_rfl) rfl rfl c_need_there
  g_known := hx (x := dd_known) (by kernel_rfl) rfl rfl c_known
  g_knows := hx (x := dd_knows) (by kernel_rfl) rfl rfl c_knows
  g_deepest := hx (x := dd_deepest) (by kernel_rfl) rfl rfl c_deepest
  g__law_cell := hx (x := dd__law_cell) (by kernel_rfl) rfl rfl c__law_cell
  g__law_drawn := hx (x := dd__law_drawn) (by kernel_rfl) rfl rfl c__law_drawn
  g__law_roll := hx (x := dd__law_roll) (by kernel_rfl) rfl rfl c__law_roll
  g__law_rounds := hx (x := dd__law_rounds) (by kernel_rfl) rfl rfl c__law_rounds
  g__law_written := hx (x := dd__law_written) (by kernel_rfl) rfl rfl c__law_written
  g__law_any_mail := hx (x := dd__law_any_mail) (by kernel_rfl) rfl rfl c__law_any_mail
  g__law_letters := hx (x := dd__law_letters) (by kernel_rfl) rfl rfl c__law_letters
  g__law_known_right := hx (x := dd__law_known_right) (by kernel_rfl) rfl rfl c__law_known_right
  g_law := hx (x := dd_law) (by kernel_rfl) rfl rfl c_law
end K17
set_option Elab.async false
set_option linter.all false
set_option maxRecDepth 100000
set_option maxHeartbeats 1000000
namespace K17
open PySem Cr
variable {P : Prog} {fl ms : List (Str × Str)} {k : Nat} {A B : List Int}
theorem H.tHKnow (H : H P fl ms) : HKnow P fl ms := ⟨H.g_known, H.g_knows, H.g_deepest⟩
theorem getD_app {X : List Int} {v : Int} {i : Nat} (h : i < X.length) : (X ++ [v]).getD i 0 = X.getD i 0 := by
  rw [List.getD_eq_getElem?_getD, List.getD_eq_getElem?_getD, List.getElem?_append_left h]
theorem getD_end {X : List Int} {v : Int} : (X ++ [v]).getD X.length 0 = v := by
  rw [List.getD_eq_getElem?_getD, List.getElem?_append_right (Nat.le_refl _)]
  simp
theorem getD_end' {X : List Int} {v : Int} {n : Nat} (h : X.length = n) : (X ++ [v]).getD n 0 = v := by subst h; exact getD_end
/-- one letter more of the other one -/
theorem wide_ok (hm : IsMail A B) (hb : barr A B = []) {i : Nat} (hi : i < A.length) {v : Int} (h1 : gK A B 0 (A.getD i 0) ≤ v) (h2 : v ≤ i) (h7 : A.getD i 0 < 7) : IsMail (A.take (i + 1)) (B.take (A.getD i 0).toNat ++ [v]) ∧ barr (A.take (i + 1)) (B.take (A.getD i 0).toNat ++ [v]) = [] := by
  obtain ⟨z0, z1⟩ := hm.at_a hi
  obtain ⟨s1, s2, lB, lA⟩ := seen_mail hm hb hi
  have g0 : 0 ≤ v := Int.le_trans (gK_ok hm (s := 0) (by decide) z0 z1).1 h1
  generalize hr : (A.getD i 0).toNat = r at *
  have la := hm.la
  have lW : (B.take r ++ [v]).length = r + 1 := by rw [List.length_append, lB]; rfl
  have b := barr_iff.mp s2
  refine ⟨mail_of ⟨s1.ra.up, fun x hx => ?_⟩ (row_of (fun x y hxy hy => ?_) (fun x hx => ?_)) (by omega) (by omega), barr_iff.mpr fun x y hx hy ⟨q1, q2⟩ => ?_⟩
  · have := s1.ra.at_ x hx
    rw [lB] at this
    rw [lW]
    omega
  · rw [lW] at hy
    rcases Nat.lt_or_eq_of_le (Nat.le_of_lt_succ hy) with q | q
    · rw [getD_app (by omega), getD_app (by omega)]
      exact s1.rb.le hxy (by omega)
    · subst q
      rw [getD_end' lB]
      rcases Nat.lt_or_eq_of_le hxy with q2 | q2
      · rw [getD_app (by omega)]
        have e : gK A B 0 (A.getD i 0) = B.getD (y - 1) 0 := by
          unfold gK
          rw [if_neg (by omega), hr]
          rfl
        have := s1.rb.le (i := x) (j := y - 1) (by omega) (by omega)
        rw [getD_take (n := y) (i := y - 1) (by omega)] at this
        omega
      · subst q2
        rw [getD_end' lB]
        exact Int.le_refl _
  · rw [lW] at hx
    rw [lA]
    rcases Nat.lt_or_eq_of_le (Nat.le_of_lt_succ hx) with q | q
    · rw [getD_app (by omega)]
      have := s1.at_b (i := x) (by omega)
      rw [lA] at this
      exact this
    · subst q
      rw [getD_end' lB]
      omega
  · rw [lW] at hy
    rcases Nat.lt_or_eq_of_le (Nat.le_of_lt_succ hy) with q | q
    · rw [getD_app (by omega)] at q2
      exact b x y hx (by omega) ⟨q1, q2⟩
    · subst q
      have := s1.at_a hx
      rw [lB] at this
      omega
theorem add_snoc {X : List Int} {v : Int} (h : X.length ≤ 10) : binM .Add false (bunD X) (.tup [.int v]) = pure (bunD (X ++ [v])) := by
  show (if (X.map D.int).length + 1 ≤ most then pure (.tup (X.map D.int ++ [.int v])) else M.stuck : M D) = _
  rw [if_pos (by rw [List.length_map, most]; omega)]
  simp [bunD]
theorem ints_ne {l r : List Int} : cmpM .NotEq (.lst (l.map .int)) (.lst (r.map .int)) = pure (!decide (l = r)) := by
  have e : ∀ X : List Int, Em 8 (.lst (X.map .int)) (.list (X.map .int)) := fun X => (em_lst (n := 1) fun _ _ => em_int).mono (by decide)
  rw [ne_of (e l) (e r), eqv_list (fun _ _ => eqv_int)]
def smD (A B : List Int) (p : Nat × Nat) : D := .lst ((List.range 21).map fun (d : Nat) => .int (kn A B p d))
theorem sm_at {p : Nat × Nat} {n : Nat} (h : n < 21) : idxM (smD A B p) (.int (n : Int)) = pure (.int (kn A B p n)) := idx_lst (by simp [h])
def E0 (A B : List Int) (p : Nat × Nat) (ρ : Cr.Env) : Prop := ∃ v3 v4 v5 v8 v9 v10, ρ = [some (mailD A B), some (prD p), some (smD A B p), v3, v4, v5, some (.int p.1), some (.int (kn A B p 0)), v8, v9, v10]
theorem r1 (H : H P fl ms) (hm : IsMail A B) (hb : barr A B = []) {p : Nat × Nat} (hp : p ∈ lets A.length B.length) {n : Nat} (hn : n ∈ List.range 20) {ρ : Cr.Env} {h : AH} (e : E0 A B p ρ) :
    ∃ ρ' h', turnS (stN 3) (L1__law_known_right fl ms (run P (k + 5))) (.int (1 + (n : Int))) ρ h = .next ρ' h' ∧ E0 A B p ρ' ∧ h' = h := by
  obtain ⟨v3, v4, v5, v8, v9, v10, rfl⟩ := e
  have hn := List.mem_range.mp hn
  obtain ⟨h1, h2⟩ := mem_lets' hp
  have q := kn_ok hm hp 0
  have q : 0 ≤ kn A B p 0 ∧ kn A B p 0 ≤ ((bun A B (1 - p.1)).length : Int) := q
  have a1 : idxM (smD A B p) (.int (1 + (n : Int))) = pure (.int (kn A B p (n + 1))) := by
    rw [show 1 + (n : Int) = ((n + 1 : Nat) : Int) by omega]
    exact sm_at (by omega)
  have a2 : 1 + (n : Int) - 1 = (n : Int) := by omega
  unfold L1__law_known_right
  by_cases z : 0 < kn A B p 0
  · have lp : (1 - p.1, (kn A B p 0).toNat - 1) ∈ lets A.length B.length := lets_of (by show 1 - p.1 < 2; omega) (by show (kn A B p 0).toNat - 1 < (bun A B (1 - p.1)).length; omega)
    have a3 : D.tup [.int (1 - (p.1 : Int)), .int (kn A B p 0 - 1)] = prD (1 - p.1, (kn A B p 0).toNat - 1) := by
      unfold prD
      rw [show (((1 - p.1, (kn A B p 0).toNat - 1).1 : Nat) : Int) = 1 - (p.1 : Int) by show ((1 - p.1 : Nat) : Int) = _; omega, show (((1 - p.1, (kn A B p 0).toNat - 1).2 : Nat) : Int) = kn A B p 0 - 1 by show (((kn A B p 0).toNat - 1 : Nat) : Int) = _; omega]
    have a4 : kn A B p (n + 1) = kn A B (1 - p.1, (kn A B p 0).toNat - 1) n := by rw [kn_next, if_neg (by omega)]
    simp only [andS_id, ↓sy_any, ↓lift_at, ↓bind_at, ↓told_at, ↓ite_at, ↓nox_eq, noxR_ok, turnC_eq, wipeE, comp_2, comp_1, comp_0, Option.toList, or_and, or_or, and_and, sx_turnN, sx_turn, loop_fix, pure_at, raise_at, andM_ok, andM_exc, andR_ok, andR_exc, andS_next, andS_ret, andS_exc, endR_next, endR_ret, endR_exc, end_at, toldR_ok, getV_0, getV_s, stN_eq, stT2, stT3, stT_pr, List.set_cons_zero, List.set_cons_succ, List.map_cons, List.map_nil, List.replicate, List.cons_append, List.nil_append, List.append_nil, tupM_0, tupM_1, tupM_2, tupM_3, dispM_0, newL_f, asBool_bl, part_int, neg_int, cmp_lt, cmp_le, cmp_gt, cmp_ge, cmp_eq, cmp_ne, bin_add, bin_sub, len_tup, len_lst, idx_t0, idx_t1, idx_l0, idx_l1, it_tup, it_lst, ↓reduceIte, Bool.false_eq_true, Bool.not_true, Bool.not_false, decide_true, decide_false, a1, a2, decide_eq_true z, a3, knows_eq H.tHMail H.tHLet H.tHBar H.g_need_there H.tHKnow (k := k) hm hb lp (d := n) (by omega), a4]
    exact ⟨_, _, rfl, ⟨_, _, _, _, _, _, rfl⟩, rfl⟩
  · have a4 : kn A B p (n + 1) = 0 := by rw [kn_next, if_pos (by omega)]
    simp only [andS_id, ↓sy_any, ↓lift_at, ↓bind_at, ↓told_at, ↓ite_at, ↓nox_eq, noxR_ok, turnC_eq, wipeE, comp_2, comp_1, comp_0, Option.toList, or_and, or_or, and_and, sx_turnN, sx_turn, loop_fix, pure_at, raise_at, andM_ok, andM_exc, andR_ok, andR_exc, andS_next, andS_ret, andS_exc, endR_next, endR_ret, endR_exc, end_at, toldR_ok, getV_0, getV_s, stN_eq, stT2, stT3, stT_pr, List.set_cons_zero, List.set_cons_succ, List.map_cons, List.map_nil, List.replicate, List.cons_append, List.nil_append, List.append_nil, tupM_0, tupM_1, tupM_2, tupM_3, dispM_0, newL_f, asBool_bl, part_int, neg_int, cmp_lt, cmp_le, cmp_gt, cmp_ge, cmp_eq, cmp_ne, bin_add, bin_sub, len_tup, len_lst, idx_t0, idx_t1, idx_l0, idx_l1, it_tup, it_lst, ↓reduceIte, Bool.false_eq_true, Bool.not_true, Bool.not_false, decide_true, decide_false, a1, decide_eq_false z, a4]
    exact ⟨_, _, rfl, ⟨_, _, _, _, _, _, rfl⟩, rfl⟩
theorem r2 (hm : IsMail A B) (hb : barr A B = []) {p : Nat × Nat} (hp : p ∈ lets A.length B.length) {n : Nat} (hn : n ∈ List.range 19) {o : Ora} {ρ : Cr.Env} {h : AH} (e : E0 A B p ρ) :
    ∃ ρ' h', turnS (stN 3) (L2__law_known_right fl ms o) (.int (2 + (n : Int))) ρ h = .next ρ' h' ∧ E0 A B p ρ' ∧ h' = h := by
  obtain ⟨v3, v4, v5, v8, v9, v10, rfl⟩ := e
  have hn := List.mem_range.mp hn
  have a1 : idxM (smD A B p) (.int (2 + (n : Int))) = pure (.int (kn A B p (n + 2))) := by
    rw [show 2 + (n : Int) = ((n + 2 : Nat) : Int) by omega]
    exact sm_at (by omega)
  have a2 : idxM (smD A B p) (.int (2 + (n : Int) - 2)) = pure (.int (kn A B p n)) := by
    rw [show 2 + (n : Int) - 2 = (n : Int) by omega]
    exact sm_at (by omega)
  have a3 : (decide (kn A B p n ≤ kn A B p (n + 2)) && decide (0 < kn A B p (n + 2))) = false := by
    by_cases z : 0 < kn A B p (n + 2)
    · have := kn_two hm hb hp z
      rw [decide_eq_false (by omega)]
      rfl
    · rw [decide_eq_false z, Bool.and_false]
  unfold L2__law_known_right
  simp only [andS_id, ↓sy_any, ↓lift_at, ↓bind_at, ↓told_at, ↓ite_at, ↓nox_eq, noxR_ok, turnC_eq, wipeE, comp_2, comp_1, comp_0, Option.toList, or_and, or_or, and_and, sx_turnN, sx_turn, loop_fix, pure_at, raise_at, andM_ok, andM_exc, andR_ok, andR_exc, andS_next, andS_ret, andS_exc, endR_next, endR_ret, endR_exc, end_at, toldR_ok, getV_0, getV_s, stN_eq, stT2, stT3, stT_pr, List.set_cons_zero, List.set_cons_succ, List.map_cons, List.map_nil, List.replicate, List.cons_append, List.nil_append, List.append_nil, tupM_0, tupM_1, tupM_2, tupM_3, dispM_0, newL_f, asBool_bl, part_int, neg_int, cmp_lt, cmp_le, cmp_gt, cmp_ge, cmp_eq, cmp_ne, bin_add, bin_sub, len_tup, len_lst, idx_t0, idx_t1, idx_l0, idx_l1, it_tup, it_lst, ↓reduceIte, Bool.false_eq_true, Bool.not_true, Bool.not_false, decide_true, decide_false, a1, a2, a3]
  exact ⟨_, _, rfl, ⟨_, _, _, _, _, _, rfl⟩, rfl⟩
def E1 (A B : List Int) (p : Nat × Nat) (ρ : Cr.Env) : Prop := ∃ v3 v4 v5 v10, ρ = [some (mailD A B), some (prD p), some (smD A B p), v3, v4, v5, some (.int p.1), some (.int (kn A B p 0)), some (bunD ((bun A B p.1).take (p.2 + 1))), some (bunD ((bun A B (1 - p.1)).take (kn A B p 0).toNat)), v10]
theorem r3 (H : H P fl ms) (hm : IsMail A B) (hb : barr A B = []) {p : Nat × Nat} (hp : p ∈ lets A.length B.length) (h7 : kn A B p 0 < 7) {n : Nat} (hn : n ∈ List.range ((p.2 : Int) + 1 - kn A B p 1).toNat) {ρ : Cr.Env} {h : AH} (e : E1 A B p ρ) :
    ∃ ρ' h', turnS (stN 5) (L3__law_known_right fl ms (run P (k + 5))) (.int (kn A B p 1 + (n : Int))) ρ h = .next ρ' h' ∧ E1 A B p ρ' ∧ h' = h := by
  obtain ⟨v3, v4, v5, v10, rfl⟩ := e
  have hn := List.mem_range.mp hn
  have ll : ((bun A B (1 - p.1)).take (kn A B p 0).toNat).length ≤ 10 := by rw [List.length_take]; omega
  have fin : ∀ {X Y : List Int}, IsMail X Y → barr X Y = [] → run P (k + 5) ("is_mail", none) [mailD X Y] = pure (.bl true) ∧ run P (k + 5) ("can_be", none) [mailD X Y] = pure (.bl true) := fun {X Y} s1 s2 =>
    ⟨by rw [is_mail_eq H.tHMail (k := k + 2), s1.a, s1.b]; rfl, by rw [can_be_eq H.tHBar H.tHMail H.g_can_be (k := k) s1, s2]; rfl⟩
  unfold L3__law_known_right
  obtain ⟨s, i⟩ := p
  rcases mem_lets hp with ⟨q1, q2⟩ | ⟨q1, q2⟩
  · have q1 : s = 0 := q1
    subst q1
    obtain ⟨w1, w2⟩ := wide_ok hm hb (i := i) q2 (v := kn A B (0, i) 1 + (n : Int)) (by
      show gK A B 0 (A.getD i 0) ≤ gK A B 0 (A.getD i 0) + (n : Int)
      omega) (by have hn : n < ((i : Int) + 1 - kn A B (0, i) 1).toNat := hn; omega) h7
    obtain ⟨f1, f2⟩ := fin w1 w2
    have f1 : run P (k + 5) ("is_mail", none) [.tup [bunD ((bun A B 0).take (i + 1)), bunD ((bun A B (1 - 0)).take (kn A B (0, i) 0).toNat ++ [kn A B (0, i) 1 + (n : Int)])]] = pure (.bl true) := f1
    have f2 : run P (k + 5) ("can_be", none) [.tup [bunD ((bun A B 0).take (i + 1)), bunD ((bun A B (1 - 0)).take (kn A B (0, i) 0).toNat ++ [kn A B (0, i) 1 + (n : Int)])]] = pure (.bl true) := f2
    simp only [andS_id, ↓sy_any, ↓lift_at, ↓bind_at, ↓told_at, ↓ite_at, ↓nox_eq, noxR_ok, turnC_eq, wipeE, comp_2, comp_1, comp_0, Option.toList, or_and, or_or, and_and, sx_turnN, sx_turn, loop_fix, pure_at, raise_at, andM_ok, andM_exc, andR_ok, andR_exc, andS_next, andS_ret, andS_exc, endR_next, endR_ret, endR_exc, end_at, toldR_ok, getV_0, getV_s, stN_eq, stT2, stT3, stT_pr, List.set_cons_zero, List.set_cons_succ, List.map_cons, List.map_nil, List.replicate, List.cons_append, List.nil_append, List.append_nil, tupM_0, tupM_1, tupM_2, tupM_3, dispM_0, newL_f, asBool_bl, part_int, neg_int, cmp_lt, cmp_le, cmp_gt, cmp_ge, cmp_eq, cmp_ne, bin_add, bin_sub, len_tup, len_lst, idx_t0, idx_t1, idx_l0, idx_l1, it_tup, it_lst, ↓reduceIte, Bool.false_eq_true, Bool.not_true, Bool.not_false, decide_true, decide_false, Int.natCast_zero, add_snoc ll, f1, f2, is_bl, BEq.rfl, Bool.or_false]
    exact ⟨_, _, rfl, ⟨_, _, _, _, rfl⟩, rfl⟩
  · have q1 : s = 1 := q1
    subst q1
    obtain ⟨w1, w2⟩ := wide_ok hm.swap (barr_swap hb) (i := i) q2 (v := kn A B (1, i) 1 + (n : Int)) (by
      show (if B.getD i 0 = 0 then (0 : Int) else A.getD ((B.getD i 0).toNat - 1) 0) ≤ (if B.getD i 0 = 0 then (0 : Int) else A.getD ((B.getD i 0).toNat - 1) 0) + (n : Int)
      omega) (by have hn : n < ((i : Int) + 1 - kn A B (1, i) 1).toNat := hn; omega) h7
    obtain ⟨f1, f2⟩ := fin w1.swap (barr_swap w2)
    have f1 : run P (k + 5) ("is_mail", none) [.tup [bunD ((bun A B (1 - 1)).take (kn A B (1, i) 0).toNat ++ [kn A B (1, i) 1 + (n : Int)]), bunD ((bun A B 1).take (i + 1))]] = pure (.bl true) := f1
    have f2 : run P (k + 5) ("can_be", none) [.tup [bunD ((bun A B (1 - 1)).take (kn A B (1, i) 0).toNat ++ [kn A B (1, i) 1 + (n : Int)]), bunD ((bun A B 1).take (i + 1))]] = pure (.bl true) := f2
    simp only [andS_id, ↓sy_any, ↓lift_at, ↓bind_at, ↓told_at, ↓ite_at, ↓nox_eq, noxR_ok, turnC_eq, wipeE, comp_2, comp_1, comp_0, Option.toList, or_and, or_or, and_and, sx_turnN, sx_turn, loop_fix, pure_at, raise_at, andM_ok, andM_exc, andR_ok, andR_exc, andS_next, andS_ret, andS_exc, endR_next, endR_ret, endR_exc, end_at, toldR_ok, getV_0, getV_s, stN_eq, stT2, stT3, stT_pr, List.set_cons_zero, List.set_cons_succ, List.map_cons, List.map_nil, List.replicate, List.cons_append, List.nil_append, List.append_nil, tupM_0, tupM_1, tupM_2, tupM_3, dispM_0, newL_f, asBool_bl, part_int, neg_int, cmp_lt, cmp_le, cmp_gt, cmp_ge, cmp_eq, cmp_ne, bin_add, bin_sub, len_tup, len_lst, idx_t0, idx_t1, idx_l0, idx_l1, it_tup, it_lst, ↓reduceIte, Bool.false_eq_true, Bool.not_true, Bool.not_false, decide_true, decide_false, show decide (((1 : Nat) : Int) = 0) = false from rfl, add_snoc ll, f1, f2, is_bl, BEq.rfl, Bool.or_false]
    exact ⟨_, _, rfl, ⟨_, _, _, _, rfl⟩, rfl⟩
theorem rg_12 : rng2M (.int 1) (.int 21) = pure (.fix ((List.range 20).map fun (k : Nat) => .int (1 + (k : Int)))) := rfl
theorem rg_22 : rng2M (.int 2) (.int 21) = pure (.fix ((List.range 19).map fun (k : Nat) => .int (2 + (k : Int)))) := rfl
theorem rg_ab {a b : Int} (h1 : -1000000 ≤ a ∧ a ≤ 1000000) (h2 : -1000000 ≤ b ∧ b ≤ 1000000) : rng2M (.int a) (.int b) = pure (.fix ((List.range (b - a).toNat).map fun (k : Nat) => .int (a + (k : Int)))) := by
  show (if rngOk a && rngOk b then pure (.fix (rangeL a b)) else M.stuck : M ItK) = _
  rw [if_pos (by unfold rngOk; simp; omega)]
  rfl
theorem lrg {n : Nat} (h : n ≤ 1000) : lstRg false (.int (n : Int)) = pure (.lst (((List.range n).map fun (i : Nat) => (i : Int)).map .int)) := by
  show (if rngOk n then newL false (rangeL 0 n) else M.stuck : M D) = _
  rw [if_pos (by unfold rngOk; simp; omega)]
  show (pure (.lst (rangeL 0 n)) : M D) = _
  unfold rangeL
  rw [Int.sub_zero, Int.toNat_natCast, List.map_map]
  congr 3
  funext k
  simp
def abL (m : Nat) : List D := ((List.range m).map fun (i : Nat) => (i : Int)).map .int
def abD (m : Nat) : D := .lst (abL m)
theorem ab0 {m : Nat} : D.lst (abL m) = abD m := rfl
theorem n1 {m : Nat} : cmpM .NotEq (abD m) (.lst []) = pure (!decide (m = 0)) := by
  have := ints_ne (l := (List.range m).map fun (i : Nat) => (i : Int)) (r := [])
  rw [show decide ((List.range m).map (fun (i : Nat) => (i : Int)) = []) = decide (m = 0) by simp] at this
  exact this
theorem nab {m : Nat} : cmpM .NotEq (abD m) (abD m) = pure false := by
  have := ints_ne (l := (List.range m).map fun (i : Nat) => (i : Int)) (r := (List.range m).map fun (i : Nat) => (i : Int))
  rw [decide_eq_true rfl] at this
  exact this
theorem nn : cmpM .NotEq .non .non = pure false := rfl
theorem ll {m : Nat} : b_len [abD m] = pure (.int (m : Int)) := by
  show (pure (.int ((abL m).length : Int)) : M D) = _
  unfold abL
  simp
theorem lrg' {n : Nat} (h : n ≤ 1000) : lstRg false (.int (n : Int)) = pure (abD n) := lrg h
theorem la {m : Nat} (h : m ≠ 0) : idxM (abD m) (.int (-1)) = pure (.int ((m : Int) - 1)) := by
  show atL (abL m) (-1) = _
  have e : (abL m).length = m := by unfold abL; simp
  unfold atL
  rw [e, show ixOf m (-1) = some (m - 1) by unfold ixOf; simp; omega]
  have : (abL m)[m - 1]? = some (.int ((m : Int) - 1)) := by
    unfold abL
    rw [List.map_map, List.getElem?_map, List.getElem?_range (by omega)]
    show some (D.int ((m - 1 : Nat) : Int)) = _
    congr 2
    omega
  simp only [this]
theorem right_eq (H : H P fl ms) (hm : IsMail A B) (hb : barr A B = []) {p : Nat × Nat} (hp : p ∈ lets A.length B.length) : run P (k + 6) ("_law_known_right", none) [mailD A B, prD p] = pure (.bl true) := by
  show run P ((k + 5) + 1) _ _ = _
  rw [H.g__law_known_right (k + 5) _ rfl, bodyM_F]
  funext h
  obtain ⟨h1, h2⟩ := mem_lets' hp
  obtain ⟨m, hm1, hm2⟩ := dpK_low hm hp
  have q0 := kn_ok hm hp 0
  have q1 := kn_ok hm hp 1
  have ir : idxM (bunD (bun A B p.1)) (.int (p.2 : Int)) = pure (.int (kn A B p 0)) := idx_bun h2
  have q0 : 0 ≤ kn A B p 0 ∧ kn A B p 0 ≤ ((bun A B (1 - p.1)).length : Int) := q0
  have lb : (bun A B p.1).length ≤ 7 ∧ (bun A B (1 - p.1)).length ≤ 7 := by
    match p.1, h1 with
    | 0, _ => exact ⟨hm.la, hm.lb⟩
    | 1, _ => exact ⟨hm.lb, hm.la⟩
  have q1 : 0 ≤ kn A B p 1 ∧ kn A B p 1 ≤ 7 := by
    refine ⟨q1.1, Int.le_trans q1.2 ?_⟩
    have : (bun A B (1 - sdK p.1 1)).length ≤ 7 := by
      match sdK p.1 1, sdK_two h1 1 with
      | 0, _ => exact hm.lb
      | 1, _ => exact hm.la
    omega
  have rg : rng1M (.int 21) = pure (.fix ((List.range 21).map fun (k : Nat) => .int k)) := rng_nat (n := 21) (by decide)
  have sm0 : D.lst ((List.range 21).map fun (d : Nat) => .int (kn A B p d)) = smD A B p := rfl
  have c1 : compIt (turnC (stN 3) (fun ρ => pure true) (fun ρ => ((getV ρ 0 >>= fun x23 => (getV ρ 1 >>= fun x25 => (getV ρ 3 >>= fun x27 => pure [] >>= fun l28 => pure (x27 :: l28)) >>= fun l26 => pure (x25 :: l26)) >>= fun l24 => pure (x23 :: l24)) >>= fun l22 => run P (k + 5) ("knows", none) l22)) [some (mailD A B), some (prD p), none, none, none, none, some (.int p.1), some (.int (kn A B p 0)), none, none, none]) (.fix ((List.range 21).map fun (k : Nat) => .int k)) = pure ((List.range 21).map fun (d : Nat) => .int (kn A B p d)) := by
    rw [comp_of (g := id) (F := fun (d : Nat) => D.int (kn A B p d)) (fun d hd => by
      have := List.mem_range.mp hd
      rw [turnC_eq]
      simp only [stN_eq, pure_bind, bind_assoc, List.set_cons_zero, List.set_cons_succ, getV_0, getV_s, knows_eq H.tHMail H.tHLet H.tHBar H.g_need_there H.tHKnow (k := k) hm hb hp (d := d) (by omega), if_true]
      rfl), List.map_id]
  have c2 : ∀ v3 v4 v5 v8 v9 v10, compIt (turnC (stN 3) (fun ρ => ((getV ρ 2 >>= fun x92 => getV ρ 3 >>= fun y93 => idxM x92 y93) >>= fun x89 => pure (.int 0) >>= fun y90 => cmpM .Gt x89 y90)) (fun ρ => getV ρ 3) [some (mailD A B), some (prD p), some (smD A B p), v3, v4, v5, some (.int p.1), some (.int (kn A B p 0)), v8, v9, v10]) (.fix ((List.range 21).map fun (k : Nat) => .int k)) = pure (((List.range m).map fun (i : Nat) => (i : Int)).map .int) := fun v3 v4 v5 v8 v9 v10 => by
    rw [comp_if (t := fun d => decide (0 < kn A B p d)) (F := fun (i : Nat) => D.int i) (g := id) (fun d hd => by
      have := List.mem_range.mp hd
      rw [turnC_eq]
      simp only [stN_eq, pure_bind, bind_assoc, List.set_cons_zero, List.set_cons_succ, getV_0, getV_s, sm_at this, cmp_gt]
      by_cases z : 0 < kn A B p d <;> simp [z])]
    rw [show (List.range 21).filter (fun d => decide (0 < kn A B p d)) = List.range m from hm2, List.map_id, List.map_map]
    rfl
  unfold S__law_known_right
  simp only [andS_id, ↓sy_any, ↓lift_at, ↓bind_at, ↓told_at, ↓ite_at, ↓nox_eq, noxR_ok, turnC_eq, wipeE, comp_2, comp_1, comp_0, Option.toList, or_and, or_or, and_and, sx_turnN, sx_turn, loop_fix, pure_at, raise_at, andM_ok, andM_exc, andR_ok, andR_exc, andS_next, andS_ret, andS_exc, endR_next, endR_ret, endR_exc, end_at, toldR_ok, getV_0, getV_s, stN_eq, stT2, stT3, stT_pr, List.set_cons_zero, List.set_cons_succ, List.map_cons, List.map_nil, List.replicate, List.cons_append, List.nil_append, List.append_nil, tupM_0, tupM_1, tupM_2, tupM_3, dispM_0, newL_f, asBool_bl, part_int, neg_int, cmp_lt, cmp_le, cmp_gt, cmp_ge, cmp_eq, cmp_ne, bin_add, bin_sub, len_tup, len_lst, idx_t0, idx_t1, idx_l0, idx_l1, it_tup, it_lst, ↓reduceIte, Bool.false_eq_true, Bool.not_true, Bool.not_false, decide_true, decide_false, idx_pr0, idx_pr1, idx_mail h1, ir, rg, c1, sm0, show idxM (smD A B p) (.int 0) = pure (.int (kn A B p 0)) from sm_at (n := 0) (by decide), rg_12]
  refine for_thn (Q := fun r => endR r = Cr.R.ok (.bl true) h) (fun ρ h' => E0 A B p ρ ∧ h' = h) ⟨⟨_, _, _, _, _, _, rfl⟩, rfl⟩ (fun n hn ρ h' ⟨e, z⟩ => ?_) fun ρ h' ⟨e, z⟩ => ?_
  · obtain ⟨ρ', h2, e1, e2, e3⟩ := r1 H (k := k) hm hb hp hn (h := h') e
    exact ⟨ρ', h2, e1, e2, e3.trans z⟩
  subst z
  obtain ⟨v3, v4, v5, v8, v9, v10, rfl⟩ := e
  simp only [andS_id, ↓sy_any, ↓lift_at, ↓bind_at, ↓told_at, ↓ite_at, ↓nox_eq, noxR_ok, turnC_eq, wipeE, comp_2, comp_1, comp_0, Option.toList, or_and, or_or, and_and, sx_turnN, sx_turn, loop_fix, pure_at, raise_at, andM_ok, andM_exc, andR_ok, andR_exc, andS_next, andS_ret, andS_exc, endR_next, endR_ret, endR_exc, end_at, toldR_ok, getV_0, getV_s, stN_eq, stT2, stT3, stT_pr, List.set_cons_zero, List.set_cons_succ, List.map_cons, List.map_nil, List.replicate, List.cons_append, List.nil_append, List.append_nil, tupM_0, tupM_1, tupM_2, tupM_3, dispM_0, newL_f, asBool_bl, part_int, neg_int, cmp_lt, cmp_le, cmp_gt, cmp_ge, cmp_eq, cmp_ne, bin_add, bin_sub, len_tup, len_lst, idx_t0, idx_t1, idx_l0, idx_l1, it_tup, it_lst, ↓reduceIte, Bool.false_eq_true, Bool.not_true, Bool.not_false, decide_true, decide_false, rg_22]
  refine for_thn (Q := fun r => endR r = Cr.R.ok (.bl true) h') (fun ρ h2 => E0 A B p ρ ∧ h2 = h') ⟨⟨_, _, _, _, _, _, rfl⟩, rfl⟩ (fun n hn ρ h2 ⟨e, z⟩ => ?_) fun ρ h2 ⟨e, z⟩ => ?_
  · obtain ⟨ρ', h3, e1, e2, e3⟩ := r2 (fl := fl) (ms := ms) (o := run P (k + 5)) hm hb hp hn (h := h2) e
    exact ⟨ρ', h3, e1, e2, e3.trans z⟩
  subst z
  obtain ⟨v3, v4, v5, v8, v9, v10, rfl⟩ := e
  have sl1 : sliceM false (bunD (bun A B p.1)) none (some ((p.2 : Int) + 1)) = pure (bunD ((bun A B p.1).take (p.2 + 1))) := by
    rw [slice_to (by omega), show ((p.2 : Int) + 1).toNat = p.2 + 1 by omega]
  have lo : ((((bun A B p.1).take (p.2 + 1)).length : Nat) : Int) = (p.2 : Int) + 1 := by rw [List.length_take]; omega
  have c2 : ∀ v3 v4 v5 v8 v9 v10, compIt (turnC (stN 3) (fun ρ => ((getV ρ 2 >>= fun x92 => getV ρ 3 >>= fun y93 => idxM x92 y93) >>= fun x89 => pure (.int 0) >>= fun y90 => cmpM .Gt x89 y90)) (fun ρ => getV ρ 3) [some (mailD A B), some (prD p), some (smD A B p), v3, v4, v5, some (.int p.1), some (.int (kn A B p 0)), v8, v9, v10]) (.fix ((List.range 21).map fun (k : Nat) => .int k)) = pure (abL m) := c2
  have i1 : idxM (smD A B p) (.int 1) = pure (.int (kn A B p 1)) := sm_at (n := 1) (by decide)
  have tail : ∀ v3 v4 v5 v10 w, w = (if kn A B p 0 < 7 then (p.2 : Int) + 1 else 0) → endR (andS (forFix (turnS (stN 5) (L3__law_known_right fl ms (run P (k + 5)))) ((List.range (w - kn A B p 1).toNat).map fun (j : Nat) => .int (kn A B p 1 + (j : Int))) [some (mailD A B), some (prD p), some (smD A B p), v3, v4, v5, some (.int p.1), some (.int (kn A B p 0)), some (bunD ((bun A B p.1).take (p.2 + 1))), some (bunD ((bun A B (1 - p.1)).take (kn A B p 0).toNat)), v10] h2) (seqS (fun ρ => liftE (pure (.bl true)) ρ fun d h => .ret d h) (fun ρ h => .next ρ h))) = .ok (.bl true) h2 := fun v3 v4 v5 v10 w hw => by
    refine for_thn (Q := fun r => endR r = Cr.R.ok (.bl true) h2) (fun ρ h3 => E1 A B p ρ ∧ h3 = h2) ⟨⟨_, _, _, _, rfl⟩, rfl⟩ (fun n hn ρ h3 ⟨e, z⟩ => ?_) fun ρ h3 ⟨e, z⟩ => ?_
    · by_cases c7 : kn A B p 0 < 7
      · rw [if_pos c7] at hw
        subst hw
        obtain ⟨ρ', h4, e1, e2, e3⟩ := r3 H (k := k) hm hb hp c7 hn (h := h3) e
        exact ⟨ρ', h4, e1, e2, e3.trans z⟩
      · rw [if_neg c7] at hw
        have := List.mem_range.mp hn
        omega
    · subst z
      simp only [andS_id, ↓sy_any, ↓lift_at, ↓bind_at, ↓told_at, ↓ite_at, ↓nox_eq, noxR_ok, turnC_eq, wipeE, comp_2, comp_1, comp_0, Option.toList, or_and, or_or, and_and, sx_turnN, sx_turn, loop_fix, pure_at, raise_at, andM_ok, andM_exc, andR_ok, andR_exc, andS_next, andS_ret, andS_exc, endR_next, endR_ret, endR_exc, end_at, toldR_ok, getV_0, getV_s, stN_eq, stT2, stT3, stT_pr, List.set_cons_zero, List.set_cons_succ, List.map_cons, List.map_nil, List.replicate, List.cons_append, List.nil_append, List.append_nil, tupM_0, tupM_1, tupM_2, tupM_3, dispM_0, newL_f, asBool_bl, part_int, neg_int, cmp_lt, cmp_le, cmp_gt, cmp_ge, cmp_eq, cmp_ne, bin_add, bin_sub, len_tup, len_lst, idx_t0, idx_t1, idx_l0, idx_l1, it_tup, it_lst, ↓reduceIte, Bool.false_eq_true, Bool.not_true, Bool.not_false, decide_true, decide_false]
  have p7 : p.2 < 7 := by omega
  have w7 : ∀ w : Int, w = (if kn A B p 0 < 7 then (p.2 : Int) + 1 else 0) → rng2M (.int (kn A B p 1)) (.int w) = pure (.fix ((List.range (w - kn A B p 1).toNat).map fun (j : Nat) => .int (kn A B p 1 + (j : Int)))) := fun w hw => by
    refine rg_ab (by omega) ?_
    split at hw <;> omega
  have DE := deepest_eq H.tHMail H.tHLet H.tHBar H.g_need_there H.tHKnow (k := k) hm hb hp hm2
  by_cases m0 : m = 0 <;> by_cases c7 : kn A B p 0 < 7
  · rw [if_pos m0] at DE
    skip
    simp only [andS_id, ↓sy_any, ↓lift_at, ↓bind_at, ↓told_at, ↓ite_at, ↓nox_eq, noxR_ok, turnC_eq, wipeE, comp_2, comp_1, comp_0, Option.toList, or_and, or_or, and_and, sx_turnN, sx_turn, loop_fix, pure_at, raise_at, andM_ok, andM_exc, andR_ok, andR_exc, andS_next, andS_ret, andS_exc, endR_next, endR_ret, endR_exc, end_at, toldR_ok, getV_0, getV_s, stN_eq, stT2, stT3, stT_pr, List.set_cons_zero, List.set_cons_succ, List.map_cons, List.map_nil, List.replicate, List.cons_append, List.nil_append, List.append_nil, tupM_0, tupM_1, tupM_2, tupM_3, dispM_0, newL_f, asBool_bl, part_int, neg_int, cmp_lt, cmp_le, cmp_gt, cmp_ge, cmp_eq, cmp_ne, bin_add, bin_sub, len_tup, len_lst, idx_t0, idx_t1, idx_l0, idx_l1, it_tup, it_lst, ↓reduceIte, Bool.false_eq_true, Bool.not_true, Bool.not_false, decide_true, decide_false, rg, c2, ab0, DE, n1, nn, ll, lrg' (n := m) (by omega), nab, idx_pr0, idx_pr1, idx_mail h1, idx_other h1, sl1, slice_to q0.1, i1, List.length_map, lo, decide_eq_true m0, decide_eq_true c7, w7 _ (if_pos c7).symm]
    exact tail _ _ _ _ _ (if_pos c7).symm
  · rw [if_pos m0] at DE
    skip
    simp only [andS_id, ↓sy_any, ↓lift_at, ↓bind_at, ↓told_at, ↓ite_at, ↓nox_eq, noxR_ok, turnC_eq, wipeE, comp_2, comp_1, comp_0, Option.toList, or_and, or_or, and_and, sx_turnN, sx_turn, loop_fix, pure_at, raise_at, andM_ok, andM_exc, andR_ok, andR_exc, andS_next, andS_ret, andS_exc, endR_next, endR_ret, endR_exc, end_at, toldR_ok, getV_0, getV_s, stN_eq, stT2, stT3, stT_pr, List.set_cons_zero, List.set_cons_succ, List.map_cons, List.map_nil, List.replicate, List.cons_append, List.nil_append, List.append_nil, tupM_0, tupM_1, tupM_2, tupM_3, dispM_0, newL_f, asBool_bl, part_int, neg_int, cmp_lt, cmp_le, cmp_gt, cmp_ge, cmp_eq, cmp_ne, bin_add, bin_sub, len_tup, len_lst, idx_t0, idx_t1, idx_l0, idx_l1, it_tup, it_lst, ↓reduceIte, Bool.false_eq_true, Bool.not_true, Bool.not_false, decide_true, decide_false, rg, c2, ab0, DE, n1, nn, ll, lrg' (n := m) (by omega), nab, idx_pr0, idx_pr1, idx_mail h1, idx_other h1, sl1, slice_to q0.1, i1, List.length_map, lo, decide_eq_true m0, decide_eq_false c7, w7 _ (if_neg c7).symm]
    exact tail _ _ _ _ _ (if_neg c7).symm
  · rw [if_neg m0] at DE
    skip
    simp only [andS_id, ↓sy_any, ↓lift_at, ↓bind_at, ↓told_at, ↓ite_at, ↓nox_eq, noxR_ok, turnC_eq, wipeE, comp_2, comp_1, comp_0, Option.toList, or_and, or_or, and_and, sx_turnN, sx_turn, loop_fix, pure_at, raise_at, andM_ok, andM_exc, andR_ok, andR_exc, andS_next, andS_ret, andS_exc, endR_next, endR_ret, endR_exc, end_at, toldR_ok, getV_0, getV_s, stN_eq, stT2, stT3, stT_pr, List.set_cons_zero, List.set_cons_succ, List.map_cons, List.map_nil, List.replicate, List.cons_append, List.nil_append, List.append_nil, tupM_0, tupM_1, tupM_2, tupM_3, dispM_0, newL_f, asBool_bl, part_int, neg_int, cmp_lt, cmp_le, cmp_gt, cmp_ge, cmp_eq, cmp_ne, bin_add, bin_sub, len_tup, len_lst, idx_t0, idx_t1, idx_l0, idx_l1, it_tup, it_lst, ↓reduceIte, Bool.false_eq_true, Bool.not_true, Bool.not_false, decide_true, decide_false, rg, c2, ab0, DE, n1, nn, ll, lrg' (n := m) (by omega), nab, idx_pr0, idx_pr1, idx_mail h1, idx_other h1, sl1, slice_to q0.1, i1, List.length_map, lo, decide_eq_false m0, la m0, cmp_ne, decide_eq_true c7, w7 _ (if_pos c7).symm]
    exact tail _ _ _ _ _ (if_pos c7).symm
  · rw [if_neg m0] at DE
    skip
    simp only [andS_id, ↓sy_any, ↓lift_at, ↓bind_at, ↓told_at, ↓ite_at, ↓nox_eq, noxR_ok, turnC_eq, wipeE, comp_2, comp_1, comp_0, Option.toList, or_and, or_or, and_and, sx_turnN, sx_turn, loop_fix, pure_at, raise_at, andM_ok, andM_exc, andR_ok, andR_exc, andS_next, andS_ret, andS_exc, endR_next, endR_ret, endR_exc, end_at, toldR_ok, getV_0, getV_s, stN_eq, stT2, stT3, stT_pr, List.set_cons_zero, List.set_cons_succ, List.map_cons, List.map_nil, List.replicate, List.cons_append, List.nil_append, List.append_nil, tupM_0, tupM_1, tupM_2, tupM_3, dispM_0, newL_f, asBool_bl, part_int, neg_int, cmp_lt, cmp_le, cmp_gt, cmp_ge, cmp_eq, cmp_ne, bin_add, bin_sub, len_tup, len_lst, idx_t0, idx_t1, idx_l0, idx_l1, it_tup, it_lst, ↓reduceIte, Bool.false_eq_true, Bool.not_true, Bool.not_false, decide_true, decide_false, rg, c2, ab0, DE, n1, nn, ll, lrg' (n := m) (by omega), nab, idx_pr0, idx_pr1, idx_mail h1, idx_other h1, sl1, slice_to q0.1, i1, List.length_map, lo, decide_eq_false m0, la m0, cmp_ne, decide_eq_false c7, w7 _ (if_neg c7).symm]
    exact tail _ _ _ _ _ (if_neg c7).symm
def E2 (s d m l : D) (ρ : Cr.Env) : Prop := ∃ v4 v5 v6, ρ = [some s, some d, some m, some l, v4, v5, v6]
theorem tl {c : Str} : D.tup [.str "refused", .str c] = tolD c := rfl
theorem in2 (H : H P fl ms) (hm : IsMail A B) {p : Nat × Nat} (hp : p ∈ lets A.length B.length) {s d l : D} {ρ : Cr.Env} {h h0 : AH} {n : Nat} (e : E2 s d (mailD A B) l ρ) (K : Keep n h0 h) :
    ∃ ρ' h', turnS (stN 4) (L2_law fl ms (run P (k + 6))) (prD p) ρ h = .next ρ' h' ∧ E2 s d (mailD A B) l ρ' ∧ Keep n h0 h' := by
  obtain ⟨v4, v5, v6, rfl⟩ := e
  unfold L2_law
  by_cases hb : barr A B = []
  · simp only [andS_id, ↓sy_any, ↓lift_at, ↓bind_at, ↓told_at, ↓ite_at, ↓nox_eq, noxR_ok, turnC_eq, wipeE, comp_2, comp_1, comp_0, Option.toList, or_and, or_or, and_and, sx_turnN, sx_turn, loop_fix, pure_at, raise_at, andM_ok, andM_exc, andR_ok, andR_exc, andS_next, andS_ret, andS_exc, endR_next, endR_ret, endR_exc, end_at, toldR_ok, getV_0, getV_s, stN_eq, stT2, stT3, stT_pr, List.set_cons_zero, List.set_cons_succ, List.map_cons, List.map_nil, List.replicate, List.cons_append, List.nil_append, List.append_nil, tupM_0, tupM_1, tupM_2, tupM_3, dispM_0, newL_f, asBool_bl, part_int, neg_int, cmp_lt, cmp_le, cmp_gt, cmp_ge, cmp_eq, cmp_ne, bin_add, bin_sub, len_tup, len_lst, idx_t0, idx_t1, idx_l0, idx_l1, it_tup, it_lst, ↓reduceIte, Bool.false_eq_true, Bool.not_true, Bool.not_false, decide_true, decide_false, can_be_eq H.tHBar H.tHMail H.g_can_be (k := k + 1) hm, hb, right_eq H (k := k) hm hb hp]
    exact ⟨_, _, rfl, ⟨_, _, _, rfl⟩, K⟩
  · simp only [andS_id, ↓sy_any, ↓lift_at, ↓bind_at, ↓told_at, ↓ite_at, ↓nox_eq, noxR_ok, turnC_eq, wipeE, comp_2, comp_1, comp_0, Option.toList, or_and, or_or, and_and, sx_turnN, sx_turn, loop_fix, pure_at, raise_at, andM_ok, andM_exc, andR_ok, andR_exc, andS_next, andS_ret, andS_exc, endR_next, endR_ret, endR_exc, end_at, toldR_ok, getV_0, getV_s, stN_eq, stT2, stT3, stT_pr, List.set_cons_zero, List.set_cons_succ, List.map_cons, List.map_nil, List.replicate, List.cons_append, List.nil_append, List.append_nil, tupM_0, tupM_1, tupM_2, tupM_3, dispM_0, newL_f, asBool_bl, part_int, neg_int, cmp_lt, cmp_le, cmp_gt, cmp_ge, cmp_eq, cmp_ne, bin_add, bin_sub, len_tup, len_lst, idx_t0, idx_t1, idx_l0, idx_l1, it_tup, it_lst, ↓reduceIte, Bool.false_eq_true, Bool.not_true, Bool.not_false, decide_true, decide_false, can_be_eq H.tHBar H.tHMail H.g_can_be (k := k + 1) hm, decide_eq_false hb, knows_no H.tHMail H.tHLet H.tHBar H.g_need_there H.tHKnow (k := k + 1) hm hb hp, deepest_no H.tHMail H.tHLet H.tHBar H.g_need_there H.tHKnow (k := k + 1) hm hb hp,
      toldR_exc (c := "Nothing") (by decide +kernel), disp_1, meth_made, app_l1, dispM_le (l := [D.tup [.str "refused", .str "Nothing"]]) (by decide), newL_f, mul_l2, ne_made2 (c := "Nothing") (by decide +kernel)]
    exact ⟨_, _, rfl, ⟨_, _, _, rfl⟩, K.app⟩
theorem in4 (H : H P fl ms) (hm : IsMail A B) {p : Nat × Nat} (hp : p ∈ lets A.length B.length) {s d l q : D} {ρ : Cr.Env} {h : AH} (e : ∃ v5 v6, ρ = [some s, some d, some (mailD A B), some l, some (prD p), v5, v6]) (hq : q ∈ [.int (-1), .int 21, .bl true, .non]) :
    ∃ ρ' h', turnS (stN 5) (L4_law fl ms (run P (k + 6))) q ρ h = .next ρ' h' ∧ (∃ v5 v6, ρ' = [some s, some d, some (mailD A B), some l, some (prD p), v5, v6]) ∧ h' = h := by
  obtain ⟨v5, v6, rfl⟩ := e
  have c : flat q = true ∧ whoB q 0 20 = false := by
    simp only [List.mem_cons, List.not_mem_nil, or_false] at hq
    rcases hq with rfl | rfl | rfl | rfl
    · exact ⟨rfl, rfl⟩
    · exact ⟨rfl, rfl⟩
    · exact ⟨rfl, rfl⟩
    · exact ⟨rfl, rfl⟩
  unfold L4_law
  simp only [andS_id, ↓sy_any, ↓lift_at, ↓bind_at, ↓told_at, ↓ite_at, ↓nox_eq, noxR_ok, turnC_eq, wipeE, comp_2, comp_1, comp_0, Option.toList, or_and, or_or, and_and, sx_turnN, sx_turn, loop_fix, pure_at, raise_at, andM_ok, andM_exc, andR_ok, andR_exc, andS_next, andS_ret, andS_exc, endR_next, endR_ret, endR_exc, end_at, toldR_ok, getV_0, getV_s, stN_eq, stT2, stT3, stT_pr, List.set_cons_zero, List.set_cons_succ, List.map_cons, List.map_nil, List.replicate, List.cons_append, List.nil_append, List.append_nil, tupM_0, tupM_1, tupM_2, tupM_3, dispM_0, newL_f, asBool_bl, part_int, neg_int, cmp_lt, cmp_le, cmp_gt, cmp_ge, cmp_eq, cmp_ne, bin_add, bin_sub, len_tup, len_lst, idx_t0, idx_t1, idx_l0, idx_l1, it_tup, it_lst, ↓reduceIte, Bool.false_eq_true, Bool.not_true, Bool.not_false, decide_true, decide_false, knows_num H.tHMail H.tHLet H.tHKnow (k := k + 1) hm hp c.1 c.2, toldR_exc (c := "BadNumber") (by decide +kernel), ne_told (c := "BadNumber") (d := "BadNumber") (by decide +kernel) (by decide +kernel)]
  exact ⟨_, _, rfl, ⟨_, _, rfl⟩, rfl⟩
theorem in5 (H : H P fl ms) (hm : IsMail A B) {q s d l : D} {ρ : Cr.Env} {h h0 : AH} {n : Nat} (e : E2 s d (mailD A B) l ρ) (K : Keep n h0 h) (hq : q ∈ [.non, .int 5, .tup [.int 2, .int 0], .tup [.int 0, .int 9]]) :
    ∃ ρ' h', turnS (stN 5) (L5_law fl ms (run P (k + 6))) q ρ h = .next ρ' h' ∧ E2 s d (mailD A B) l ρ' ∧ Keep n h0 h' := by
  obtain ⟨v4, v5, v6, rfl⟩ := e
  have la := hm.la
  have c : okL q ∧ letB A.length B.length q = false := by
    simp only [List.mem_cons, List.not_mem_nil, or_false] at hq
    rcases hq with rfl | rfl | rfl | rfl
    · exact ⟨⟨rfl, fun l e => by cases e⟩, rfl⟩
    · exact ⟨⟨rfl, fun l e => by cases e⟩, rfl⟩
    · exact ⟨⟨rfl, fun l e => by cases e; rfl⟩, rfl⟩
    · refine ⟨⟨rfl, fun l e => by cases e; rfl⟩, ?_⟩
      show whoB (.int 9) 0 ((A.length : Int) - 1) = false
      simp [whoB]; omega
  unfold L5_law
  simp only [andS_id, ↓sy_any, ↓lift_at, ↓bind_at, ↓told_at, ↓ite_at, ↓nox_eq, noxR_ok, turnC_eq, wipeE, comp_2, comp_1, comp_0, Option.toList, or_and, or_or, and_and, sx_turnN, sx_turn, loop_fix, pure_at, raise_at, andM_ok, andM_exc, andR_ok, andR_exc, andS_next, andS_ret, andS_exc, endR_next, endR_ret, endR_exc, end_at, toldR_ok, getV_0, getV_s, stN_eq, stT2, stT3, stT_pr, List.set_cons_zero, List.set_cons_succ, List.map_cons, List.map_nil, List.replicate, List.cons_append, List.nil_append, List.append_nil, tupM_0, tupM_1, tupM_2, tupM_3, dispM_0, newL_f, asBool_bl, part_int, neg_int, cmp_lt, cmp_le, cmp_gt, cmp_ge, cmp_eq, cmp_ne, bin_add, bin_sub, len_tup, len_lst, idx_t0, idx_t1, idx_l0, idx_l1, it_tup, it_lst, ↓reduceIte, Bool.false_eq_true, Bool.not_true, Bool.not_false, decide_true, decide_false, knows_let H.tHMail H.tHLet H.tHKnow (k := k + 1) hm c.1 c.2, deepest_let H.tHMail H.tHLet H.tHKnow (k := k + 1) hm c.1 c.2,
      toldR_exc (c := "BadLetter") (by decide +kernel), disp_1, meth_made, app_l1, dispM_le (l := [D.tup [.str "refused", .str "BadLetter"]]) (by decide), newL_f, mul_l2, ne_made2 (c := "BadLetter") (by decide +kernel)]
  exact ⟨_, _, rfl, ⟨_, _, _, rfl⟩, K.app⟩
theorem in1 (H : H P fl ms) {s : D} {ρ : Cr.Env} {h0 : AH} {n : Nat} (e : ρ.length = 7) (e0 : ρ.head? = some (some s)) (dh : Die n h0) :
    ∃ ρ' h', turnS (stN 1) (L1_law fl ms (run P (k + 6))) (.ref n) ρ h0 = .next ρ' h' ∧ (ρ'.length = 7 ∧ ρ'.head? = some (some s)) ∧ Keep n h0 h' := by
  match ρ, e with
  | [v0, v1, v2, v3, v4, v5, v6], _ =>
  cases e0
  obtain ⟨A, B, h1, e1, K, hm, la, lb⟩ := any_mail_ok H.tHDice (k := k + 2) H.g__law_written H.g__law_any_mail dh (f0 := 7) (s0' := 7) (by decide) (by decide)
  have e1 : run P (k + 6) ("_law_any_mail", none) [.ref n, .int 7, .int 7] h0 = _ := e1
  unfold L1_law
  simp only [andS_id, ↓sy_any, ↓lift_at, ↓bind_at, ↓told_at, ↓ite_at, ↓nox_eq, noxR_ok, turnC_eq, wipeE, comp_2, comp_1, comp_0, Option.toList, or_and, or_or, and_and, sx_turnN, sx_turn, loop_fix, pure_at, raise_at, andM_ok, andM_exc, andR_ok, andR_exc, andS_next, andS_ret, andS_exc, endR_next, endR_ret, endR_exc, end_at, toldR_ok, getV_0, getV_s, stN_eq, stT2, stT3, stT_pr, List.set_cons_zero, List.set_cons_succ, List.map_cons, List.map_nil, List.replicate, List.cons_append, List.nil_append, List.append_nil, tupM_0, tupM_1, tupM_2, tupM_3, dispM_0, newL_f, asBool_bl, part_int, neg_int, cmp_lt, cmp_le, cmp_gt, cmp_ge, cmp_eq, cmp_ne, bin_add, bin_sub, len_tup, len_lst, idx_t0, idx_t1, idx_l0, idx_l1, it_tup, it_lst, ↓reduceIte, Bool.false_eq_true, Bool.not_true, Bool.not_false, decide_true, decide_false, e1, letters_eq H.g__law_letters (k := k + 5) hm.la hm.lb]
  refine for_nx (fun ρ' h' => E2 s (.ref n) (mailD A B) (.lst ((lets A.length B.length).map prD)) ρ' ∧ Keep n h0 h') ⟨⟨_, _, _, rfl⟩, K⟩ (fun q hq ρ h ⟨e, K⟩ => ?_) fun ρ h ⟨e, K⟩ => ?_
  · exact in2 H (k := k) hm hq e K
  obtain ⟨v4, v5, v6, rfl⟩ := e
  have sl : sliceM false (.lst ((lets A.length B.length).map prD)) none (some 1) = pure (.lst (((lets A.length B.length).take 1).map prD)) := by
    show newL false (cut ((lets A.length B.length).map prD) none (some ((1 : Nat) : Int))) = _
    rw [cut_take, List.map_take]
    rfl
  simp only [andS_id, ↓sy_any, ↓lift_at, ↓bind_at, ↓told_at, ↓ite_at, ↓nox_eq, noxR_ok, turnC_eq, wipeE, comp_2, comp_1, comp_0, Option.toList, or_and, or_or, and_and, sx_turnN, sx_turn, loop_fix, pure_at, raise_at, andM_ok, andM_exc, andR_ok, andR_exc, andS_next, andS_ret, andS_exc, endR_next, endR_ret, endR_exc, end_at, toldR_ok, getV_0, getV_s, stN_eq, stT2, stT3, stT_pr, List.set_cons_zero, List.set_cons_succ, List.map_cons, List.map_nil, List.replicate, List.cons_append, List.nil_append, List.append_nil, tupM_0, tupM_1, tupM_2, tupM_3, dispM_0, newL_f, asBool_bl, part_int, neg_int, cmp_lt, cmp_le, cmp_gt, cmp_ge, cmp_eq, cmp_ne, bin_add, bin_sub, len_tup, len_lst, idx_t0, idx_t1, idx_l0, idx_l1, it_tup, it_lst, ↓reduceIte, Bool.false_eq_true, Bool.not_true, Bool.not_false, decide_true, decide_false, sl]
  refine for_nx (fun ρ' h' => E2 s (.ref n) (mailD A B) (.lst ((lets A.length B.length).map prD)) ρ' ∧ h' = h) ⟨⟨_, _, _, rfl⟩, rfl⟩ (fun q hq ρ h ⟨e, K⟩ => ?_) fun ρ h ⟨e, K⟩ => ?_
  · obtain ⟨v4, v5, v6, rfl⟩ := e
    have hq := List.mem_of_mem_take hq
    unfold L3_law
    simp only [andS_id, ↓sy_any, ↓lift_at, ↓bind_at, ↓told_at, ↓ite_at, ↓nox_eq, noxR_ok, turnC_eq, wipeE, comp_2, comp_1, comp_0, Option.toList, or_and, or_or, and_and, sx_turnN, sx_turn, loop_fix, pure_at, raise_at, andM_ok, andM_exc, andR_ok, andR_exc, andS_next, andS_ret, andS_exc, endR_next, endR_ret, endR_exc, end_at, toldR_ok, getV_0, getV_s, stN_eq, stT2, stT3, stT_pr, List.set_cons_zero, List.set_cons_succ, List.map_cons, List.map_nil, List.replicate, List.cons_append, List.nil_append, List.append_nil, tupM_0, tupM_1, tupM_2, tupM_3, dispM_0, newL_f, asBool_bl, part_int, neg_int, cmp_lt, cmp_le, cmp_gt, cmp_ge, cmp_eq, cmp_ne, bin_add, bin_sub, len_tup, len_lst, idx_t0, idx_t1, idx_l0, idx_l1, it_tup, it_lst, ↓reduceIte, Bool.false_eq_true, Bool.not_true, Bool.not_false, decide_true, decide_false, dispM_le (show [D.int (-1), .int 21, .bl true, .non].length ≤ most by decide)]
    refine for_ly (fun ρ' h' => (∃ v5 v6, ρ' = [some s, some (.ref n), some (mailD A B), some (.lst ((lets A.length B.length).map prD)), some (prD q), v5, v6]) ∧ h' = h) ⟨⟨_, _, rfl⟩, rfl⟩ (fun b hb ρ h2 ⟨e, z⟩ => ?_) fun ρ h2 ⟨e, z⟩ => ?_
    · obtain ⟨ρ', h', e1, e2, e3⟩ := in4 H (k := k) hm hq (h := h2) e hb
      exact ⟨ρ', h', e1, e2, e3.trans z⟩
    · obtain ⟨v5, v6, rfl⟩ := e
      exact ⟨⟨_, _, _, rfl⟩, z.trans K⟩
  subst K
  obtain ⟨v4, v5, v6, rfl⟩ := e
  simp only [andS_id, ↓sy_any, ↓lift_at, ↓bind_at, ↓told_at, ↓ite_at, ↓nox_eq, noxR_ok, turnC_eq, wipeE, comp_2, comp_1, comp_0, Option.toList, or_and, or_or, and_and, sx_turnN, sx_turn, loop_fix, pure_at, raise_at, andM_ok, andM_exc, andR_ok, andR_exc, andS_next, andS_ret, andS_exc, endR_next, endR_ret, endR_exc, end_at, toldR_ok, getV_0, getV_s, stN_eq, stT2, stT3, stT_pr, List.set_cons_zero, List.set_cons_succ, List.map_cons, List.map_nil, List.replicate, List.cons_append, List.nil_append, List.append_nil, tupM_0, tupM_1, tupM_2, tupM_3, dispM_0, newL_f, asBool_bl, part_int, neg_int, cmp_lt, cmp_le, cmp_gt, cmp_ge, cmp_eq, cmp_ne, bin_add, bin_sub, len_tup, len_lst, idx_t0, idx_t1, idx_l0, idx_l1, it_tup, it_lst, ↓reduceIte, Bool.false_eq_true, Bool.not_true, Bool.not_false, decide_true, decide_false, dispM_le (show [D.non, .int 5, .tup [.int 2, .int 0], .tup [.int 0, .int 9]].length ≤ most by decide)]
  refine for_ly (fun ρ' h' => E2 s (.ref n) (mailD A B) (.lst ((lets A.length B.length).map prD)) ρ' ∧ Keep n h0 h') ⟨⟨_, _, _, rfl⟩, by assumption⟩ (fun q hq ρ h ⟨e, K⟩ => ?_) fun ρ h ⟨e, K⟩ => ?_
  · exact in5 H (k := k) hm e K hq
  · obtain ⟨v4, v5, v6, rfl⟩ := e
    exact ⟨⟨rfl, rfl⟩, K⟩
theorem law_17 (H : H P fl ms) {ns : List Int} (hl : ns.length ≤ 63) : ∃ h', run P (k + 7) ("law", none) [.scr ns] [] = .ok (.bl true) h' := by
  show ∃ h', run P ((k + 6) + 1) _ _ [] = _
  rw [H.g_law (k + 6) _ rfl, bodyM_F]
  unfold S_law
  obtain ⟨c, h1, e1, hc, dice⟩ := rounds_ok H.tHDice (k := k + 4) hl (hi := 3) (by omega) (by omega)
  have e1 : run P (k + 6) ("_law_rounds", none) [.scr ns, .int 3] [] = _ := e1
  simp only [andS_id, ↓sy_any, ↓lift_at, ↓bind_at, ↓told_at, ↓ite_at, ↓nox_eq, noxR_ok, turnC_eq, wipeE, comp_2, comp_1, comp_0, Option.toList, or_and, or_or, and_and, sx_turnN, sx_turn, loop_fix, pure_at, raise_at, andM_ok, andM_exc, andR_ok, andR_exc, andS_next, andS_ret, andS_exc, endR_next, endR_ret, endR_exc, end_at, toldR_ok, getV_0, getV_s, stN_eq, stT2, stT3, stT_pr, List.set_cons_zero, List.set_cons_succ, List.map_cons, List.map_nil, List.replicate, List.cons_append, List.nil_append, List.append_nil, tupM_0, tupM_1, tupM_2, tupM_3, dispM_0, newL_f, asBool_bl, part_int, neg_int, cmp_lt, cmp_le, cmp_gt, cmp_ge, cmp_eq, cmp_ne, bin_add, bin_sub, len_tup, len_lst, idx_t0, idx_t1, idx_l0, idx_l1, it_tup, it_lst, ↓reduceIte, Bool.false_eq_true, Bool.not_true, Bool.not_false, decide_true, decide_false, e1]
  refine for_dice (Q := fun r => ∃ h', endR r = .ok (.bl true) h') (fun ρ => ρ.length = 7 ∧ ρ.head? = some (some (.scr ns))) ⟨rfl, rfl⟩ dice (fun n ρ h i dh => in1 H i.1 i.2 dh) fun ρ h _ => ?_
  simp only [andS_id, ↓sy_any, ↓lift_at, ↓bind_at, ↓told_at, ↓ite_at, ↓nox_eq, noxR_ok, turnC_eq, wipeE, comp_2, comp_1, comp_0, Option.toList, or_and, or_or, and_and, sx_turnN, sx_turn, loop_fix, pure_at, raise_at, andM_ok, andM_exc, andR_ok, andR_exc, andS_next, andS_ret, andS_exc, endR_next, endR_ret, endR_exc, end_at, toldR_ok, getV_0, getV_s, stN_eq, stT2, stT3, stT_pr, List.set_cons_zero, List.set_cons_succ, List.map_cons, List.map_nil, List.replicate, List.cons_append, List.nil_append, List.append_nil, tupM_0, tupM_1, tupM_2, tupM_3, dispM_0, newL_f, asBool_bl, part_int, neg_int, cmp_lt, cmp_le, cmp_gt, cmp_ge, cmp_eq, cmp_ne, bin_add, bin_sub, len_tup, len_lst, idx_t0, idx_t1, idx_l0, idx_l1, it_tup, it_lst, ↓reduceIte, Bool.false_eq_true, Bool.not_true, Bool.not_false, decide_true, decide_false]
  exact ⟨_, rfl⟩
end K17
set_option Elab.async false
set_option linter.all false
set_option maxRecDepth 100000
set_option maxHeartbeats 0
namespace K17
theorem math (ns : List Int) (h : ns.length ≤ 63) : ∃ h', Cr.run tb.prog (39 + 1) (("law" : PySem.Str), none) [.scr ns] [] = .ok (.bl true) h' := law_17 all (k := 33) h
end K17
open PySem PySem.W PySem.Calls PyProof.Rows
theorem PySem.Challenge.cw_crossmail_k17_whole_what_was_known_holds : PySem.Challenge.rw_crossmail_k17_whole_what_was_known.Holds := by
  w_on; o_law
  refine HandSHeadRun.head_any (r := K17.R) (q := view K17.R.prog [43]) (H := K17.hk) (ob := K17.obK) (M := 6000) (loose := K17.loose) (d := HandSHeadRun.topDef K17.R.prog 43) (kwd := []) K17.obK_eq
    (by kernel_rfl) (fun s => by kernel_rfl) K17.topRun (by kernel_rfl) (by kernel_rfl) (by kernel_rfl) (by rfl) (by first | assumption | decide +kernel) (by decide +kernel) ⟨rfl, rfl, rfl, rfl, rfl, by decide +kernel⟩ ?hw ?hc
  case hw => w_witness2
  case hc =>
    refine Cr.walk_w (l := PySem.Challenge.rw_crossmail_k17_whole_what_was_known) (n := 63) (k := 5 * (39 + 1)) rfl (by decide) (by kernel_rfl) ⟨rfl, by decide, by decide⟩ fun w mg fa h Y G hmg0 => ?_
    obtain ⟨K, KX, c⟩ := Y
    have hmg : mg ("law" : PySem.Str) = some (.ref fa) := by
      have e : (HandSHeadRun.topDef K17.R.prog 43).name = ("law" : PySem.Str) := by kernel_rfl
      rw [← e]
      exact hmg0
    exact ⟨K, KX, Cr.law_end K17.tb_ok KX G c K17.dds_ok K17.tell (x := K17.dd_law) (by kernel_rfl) rfl hmg (by decide) K17.math⟩
