import PyProof.Rows.All
import Wide.All
import OpenK.AllK
import Wide.FinOn
import HandS.ForMost
import HandS.ForExc
import HandS.Conv
import HandS.Rev
import HandS.RevRange
import HandS.Deep
import HandS.Style
import HandS.TupLe
import HandS.TupAny
import HandS.TupMul
import HandS.CallSlots
import HandS.Flow
import HandS.Strs
import HandS.SetFor
import HandS.More
import HandS.ExcOwn
import KE.DataMinMax
import KE.DataCmp
import KE.DataEq
import KE.DataFind
import KE.DataIsa
import KE.DataAny
import KE.SortData
import KE.KTupSum
import KE.KDictList
import PySem.Challenge.RW_jobwright_k05_whole_sums_of_lateness
set_option Elab.async false
set_option linter.all false
set_option maxRecDepth 100000
/-! DM0: the small pure machine: values are PyData, local lists by value with an owner; code Ex, Sm; its run. -/
namespace DM
open PySem

/-- what a name holds: nothing; a value that stays; a list or dict of its own (lk: walked just now, pr: handed in by the caller to be changed); a caught error -/
inductive Sl where
  | emp
  | val (d : PyData)
  | own (lk pr : Bool) (d : PyData)
  | exc (c : Nat) (pl : PyData)
abbrev En := List Sl
/-- an operand: a value, a fresh list, or the own list of a name -/
inductive Opd where
  | v (d : PyData)
  | f (d : PyData)
  | s (i : Nat)
inductive Res (α : Type) where
  | ok (a : α) (n : En)
  | err (c : Nat) (pl : PyData) (n : En)
  | bad
abbrev M (α : Type) := En → Res α
@[reducible] def ret {α : Type} (a : α) : M α := fun n => .ok a n
def bnd {α β : Type} (m : M α) (f : α → M β) : M β := fun n => match m n with
  | .ok a n' => f a n'
  | .err c p n' => .err c p n'
  | .bad => .bad
@[reducible] def no {α : Type} : M α := fun _ => .bad
def opt {α : Type} : Option α → M α
  | some a => ret a
  | none => no

/-! ### code -/
/-- targets of for, comprehensions, tuple assignments -/
inductive Tg where
  | nm (i : Nat)
  | nil
  | cons (t ts : Tg)
  | tu (ts : Tg)
/-- what a for or a comprehension walks -/
inductive Ik where
  | plain | range1 | range2 | range3 | enum | rev
/-- built-in functions by their name; isa: isinstance with a written class -/
inductive Ty where
  | int | bool | str | tuple | list | none
inductive Bf where
  | len | abs | sum | max | min | maxd | mind | sorted | sortedr | tuple | list | int | all | any | isa (t : Ty) | listr | tupler | rev | even | dict0 | dict1 | str
/-- methods -/
inductive Mf where
  | append | index | pop | popAt | remove | reverse | insert | count
inductive Ex where
  | nil
  | cons (e es : Ex)
  | var (i : Nat)
  | con (d : PyData)
  | bin (op : Operator) (a b : Ex)
  | neg (a : Ex)
  | not (a : Ex)
  | and (a b : Ex)
  | or (a b : Ex)
  | cmp (op : CmpOp) (a b : Ex)
  | cmp2 (op op' : CmpOp) (a b c : Ex)
  | ife (c a b : Ex)
  | tup (es : Ex)
  | lst (es : Ex)
  | idx (a i : Ex)
  | slc (a lo hi : Ex)
  | call (f : Nat) (io : List Bool) (es : Ex)
  | blt (b : Bf) (es : Ex)
  | mth (m : Mf) (o es : Ex)
  | comp (own : List Nat) (tg : Tg) (k : Ik) (its ifs elt : Ex)
  | comp2 (own own1 : List Nat) (tg : Tg) (k : Ik) (its ifs : Ex) (tg1 : Tg) (k1 : Ik) (its1 ifs1 elt : Ex)
inductive Sm where
  | nil
  | seq (s r : Sm)
  | asg (i : Nat) (e : Ex)
  | asgT (t : Tg) (e : Ex)
  | par (is : List Nat) (es : Ex)
  | setI (a i e : Ex)
  | setII (a i b j e : Ex)
  | swp (a i b j es : Ex)
  | aug (op : Operator) (i : Nat) (e : Ex)
  | augS (op : Operator) (a i e : Ex)
  | exp (e : Ex)
  | ret (e : Ex)
  | retN
  | ife (c : Ex) (a b : Sm)
  | forr (tg : Tg) (k : Ik) (its : Ex) (b : Sm)
  | whl (c : Ex) (b : Sm)
  | brk
  | cont
  | pass
/-- a def: which parameters are lists that it changes, how many names it has, its body -/
structure Fn where
  io : List Bool
  nl : Nat
  body : Sm

/-! ### operands -/
/-- read, for a moment -/
def rd : Opd → M PyData
  | .v d => ret d
  | .f d => ret d
  | .s i => fun n => match n[i]? with
    | some (.own _ _ d) => .ok d n
    | some (.val d) => .ok d n
    | _ => .bad
/-- read for good: an own list stays as it is from now on -/
def keep : Opd → M PyData
  | .v d => ret d
  | .f d => ret d
  | .s i => fun n => match n[i]? with
    | some (.own _ false d) => .ok d (n.set i (.val d))
    | some (.val d) => .ok d n
    | _ => .bad
def rds : List Opd → M (List PyData)
  | [] => ret []
  | o :: os => bnd (rd o) fun d => bnd (rds os) fun ds => ret (d :: ds)
def keeps : List Opd → M (List PyData)
  | [] => ret []
  | o :: os => bnd (keep o) fun d => bnd (keeps os) fun ds => ret (d :: ds)

/-! ### values -/
/-- the script's list, that nobody may change -/
@[reducible] def FL (ds : List PyData) : PyData := .dict [(.none, .list ds)]
mutual
/-- no list or dict within -/
def flat : PyData → Bool
  | .none | .bool _ | .int _ | .str _ => true
  | .tuple xs => flatAll xs
  | .list _ | .dict _ => false
def flatAll : List PyData → Bool
  | [] => true
  | x :: xs => flat x && flatAll xs
end
/-- of a fresh list: no list or dict within its items -/
def flatR : Opd → Bool
  | .v d => flat d
  | .f (.list ds) => flatAll ds
  | _ => false
def tru (d : PyData) : Option Bool := match d with
  | .none => some false
  | .bool b => some b
  | .int i => some (i != 0)
  | .str s => if s.length ≤ sizeLine then some (s.length != 0) else none
  | .list xs => some (!xs.isEmpty)
  | .tuple xs => some (!xs.isEmpty)
  | .dict _ => none
def mulOk (i j : Int) : Bool := decide (-(2 ^ 64) < i) && decide (i < 2 ^ 64) || decide (-(2 ^ 64) < j) && decide (j < 2 ^ 64)
def binI (op : Operator) (i j : Int) : Option Int := match op with
  | .Add => some (i + j)
  | .Sub => some (i - j)
  | .Mult => if mulOk i j then some (i * j) else none
  | .FloorDiv => if j ≠ 0 ∧ j.natAbs < 1073741824 then some (i.fdiv j) else none
  | .Mod => if j ≠ 0 then some (i.fmod j) else none
  | .Pow => if 0 ≤ j ∧ j ≤ 1000000 ∧ i.natAbs < 2 ^ 64 then some (i ^ j.toNat) else none
  | .LShift => if 0 ≤ j ∧ j ≤ 1000000 ∧ i.natAbs < 2 ^ 64 then some (i * 2 ^ j.toNat) else none
  | .RShift => if 0 ≤ j then some (i / 2 ^ j.toNat) else none
  | .BitAnd => some (Builtin.bitAnd i j)
  | .BitOr => some (Builtin.bitOr i j)
  | .BitXor => some (Builtin.bitXor i j)
  | _ => none
/-- a op b; a new list is fresh -/
def binD (op : Operator) (x y : PyData) : Option Opd := match x, y with
  | .int i, .int j => (binI op i j).map fun k => .v (.int k)
  | .str a, .str b => match op with
    | .Add => if a.length + b.length ≤ sizeLine then some (.v (.str (a ++ b))) else none
    | _ => none
  | .tuple xs, .tuple ys => match op with
    | .Add => if xs.length + ys.length ≤ sizeLine then some (.v (.tuple (xs ++ ys))) else none
    | _ => none
  | .list xs, .list ys => match op with
    | .Add => if xs.length + ys.length ≤ sizeLine then some (.f (.list (xs ++ ys))) else none
    | _ => none
  | .list xs, .int k => match op with
    | .Mult => if -(2 ^ 63) ≤ k ∧ k < 2 ^ 63 ∧ xs.length * k.toNat ≤ sizeLine then some (.f (.list (List.replicate k.toNat xs).flatten)) else none
    | _ => none
  | .tuple xs, .int k => match op with
    | .Mult => if xs ≠ [] ∧ 0 ≤ k ∧ k ≤ 1000 ∧ xs.length ≤ 1000 then some (.v (.tuple (List.replicate k.toNat xs).flatten)) else none
    | _ => none
  | _, _ => none
def isFlat : PyData → Bool
  | .none | .bool _ | .int _ | .str _ => true
  | _ => false
/-- how deep at most -/
def dmax : Nat := 60
def dok (d : PyData) : Bool := d.plain && decide (d.depth ≤ dmax)
def notNone : PyData → Bool
  | .none => false
  | _ => true
/-! dicts by numbers -/
def keyEq (p : PyData × PyData) (k : Int) : Bool := match p.1 with
  | .int j => j == k
  | _ => false
def dget (kvs : List (PyData × PyData)) (k : Int) : Option PyData := (kvs.find? fun p => keyEq p k).map (·.2)
def dput (kvs : List (PyData × PyData)) (k : Int) (d : PyData) : List (PyData × PyData) := if (dget kvs k).isSome = true then kvs.map fun p => if keyEq p k = true then (p.1, d) else p else kvs ++ [(.int k, d)]
/-- not the script's list -/
def notFL : List (PyData × PyData) → Bool
  | (.none, _) :: _ => false
  | _ => true
def ltOk (x y : PyData) : Bool := dok x && dok y && W.alike x y && notNone x && notNone y
def cmpD (op : CmpOp) (x y : PyData) : Option Bool := match op with
  | .Eq => if dok x && dok y then some (PyData.eqv x y) else none
  | .NotEq => if dok x && dok y then some (!PyData.eqv x y) else none
  | .Lt => if ltOk x y then some (W.dataLt x y) else none
  | .LtE => if ltOk x y then some (!W.dataLt y x) else none
  | .Gt => if ltOk x y then some (W.dataLt y x) else none
  | .GtE => if ltOk x y then some (!W.dataLt x y) else none
  | .Is => match y with
    | .none => some (match x with | .none => true | _ => false)
    | .bool b => match x with | .bool a => some (decide (a = b)) | _ => none
    | _ => none
  | .IsNot => match y with
    | .none => some (match x with | .none => false | _ => true)
    | .bool b => match x with | .bool a => some (!decide (a = b)) | _ => none
    | _ => none
  | .In => match y with
    | .list xs => if dok x && dok y then some (xs.any fun z => PyData.eqv z x) else none
    | .tuple xs => if dok x && dok y then some (xs.any fun z => PyData.eqv z x) else none
    | .dict kvs => match x with
      | .int k => if notFL kvs then some (dget kvs k).isSome else none
      | _ => none
    | _ => none
  | .NotIn => match y with
    | .list xs => if dok x && dok y then some (!xs.any fun z => PyData.eqv z x) else none
    | .tuple xs => if dok x && dok y then some (!xs.any fun z => PyData.eqv z x) else none
    | .dict kvs => match x with
      | .int k => if notFL kvs then some (!(dget kvs k).isSome) else none
      | _ => none
    | _ => none
def idxD (x y : PyData) : Option PyData := match x, y with
  | .list xs, .int i => L2.atI xs i
  | .tuple xs, .int i => L2.atI xs i
  | .dict [(.none, .list xs)], .int i => L2.atI xs i
  | .dict kvs, .int k => if notFL kvs then dget kvs k else none
  | .str s, .int i => if s.length ≤ sizeLine then (L2.atI s.cps.toList i).map fun c => .str ⟨#[c]⟩ else none
  | _, _ => none
def cutD {α : Type} (xs : List α) (lo hi : Option Int) : List α := (xs.drop (HT.sIx xs.length 0 lo)).take (HT.sIx xs.length xs.length hi - HT.sIx xs.length 0 lo)
def slcD (x : PyData) (l h : Option Int) : Option Opd := match x with
  | .list xs => some (.f (.list (cutD xs l h)))
  | .tuple xs => some (.v (.tuple (cutD xs l h)))
  | _ => none
def allAlike (xs : List PyData) : Bool := xs.all fun x => xs.all fun y => W.alike x y
def sortable (xs : List PyData) : Bool := (xs.all fun d => match d with | .tuple (_ :: _) => true | _ => false) || xs.all fun d => match d with | .none => false | .tuple _ => false | _ => true
def intsOf : List PyData → Option (List Int)
  | [] => some []
  | .int i :: r => (intsOf r).map (i :: ·)
  | _ => none
def bools : List PyData → Option (List Bool)
  | [] => some []
  | .bool i :: r => (bools r).map (i :: ·)
  | _ => none
def rng (lo hi : Int) : List PyData := (List.range (hi - lo).toNat).map fun (k : Nat) => PyData.int (lo + (k : Int))
def small62 (i : Int) : Bool := decide (-(2 ^ 62) ≤ i) && decide (i < 2 ^ 62)
def seqOf : PyData → Option (List PyData)
  | .list xs => some xs
  | .tuple xs => some xs
  | _ => none
def maxOk (xs : List PyData) : Bool := allAlike xs && xs.all notNone && xs.all dok
def isaD (t : Ty) (d : PyData) : Bool := match t with
  | .int => d.isInt
  | .bool => d.isBool
  | .str => d.isStr
  | .tuple => d.isTuple
  | .list => d.isList
  | .none => d.isNoneType
def blenD : List PyData → Option Opd
  | [.list xs] => some (.v (.int xs.length))
  | [.tuple xs] => some (.v (.int xs.length))
  | [.dict [(.none, .list xs)]] => some (.v (.int xs.length))
  | [.dict kvs] => if notFL kvs then some (.v (.int kvs.length)) else none
  | [.str s] => if s.length ≤ sizeLine then some (.v (.int s.length)) else none
  | _ => none
def babsD : List PyData → Option Opd
  | [.int i] => some (.v (.int (if i < 0 then -i else i)))
  | _ => none
def bintD : List PyData → Option Opd
  | [.int i] => some (.v (.int i))
  | _ => none
def bsumD : List PyData → Option Opd
  | [.list xs] => (intsOf xs).map fun ns => .v (.int ns.sum)
  | [.tuple xs] => (intsOf xs).map fun ns => .v (.int ns.sum)
  | _ => none
def bmaxD : List PyData → Option Opd
  | [.int i, .int j] => some (.v (.int (if j > i then j else i)))
  | [.list (x :: xs)] => if maxOk (x :: xs) then some (.v (W.maxD x xs)) else none
  | [.tuple (x :: xs)] => if maxOk (x :: xs) then some (.v (W.maxD x xs)) else none
  | _ => none
def bminD : List PyData → Option Opd
  | [.int i, .int j] => some (.v (.int (if j < i then j else i)))
  | [.list (x :: xs)] => if maxOk (x :: xs) then some (.v (W.minD x xs)) else none
  | [.tuple (x :: xs)] => if maxOk (x :: xs) then some (.v (W.minD x xs)) else none
  | _ => none
def bsortedD : List PyData → Option Opd
  | [.list xs] => if allAlike xs && sortable xs && xs.all dok then some (.f (.list (xs.mergeSort (W.dataLe false id)))) else none
  | [.tuple xs] => if allAlike xs && sortable xs && xs.all dok then some (.f (.list (xs.mergeSort (W.dataLe false id)))) else none
  | _ => none
def btupleD : List PyData → Option Opd
  | [.list xs] => some (.v (.tuple xs))
  | [.tuple xs] => some (.v (.tuple xs))
  | _ => none
def blistD : List PyData → Option Opd
  | [.list xs] => some (.f (.list xs))
  | [.tuple xs] => some (.f (.list xs))
  | [.dict kvs] => if notFL kvs then some (.f (.list (kvs.map (·.1)))) else none
  | _ => none
def ballD : List PyData → Option Opd
  | [.list xs] => (bools xs).map fun bs => .v (.bool (bs.all id))
  | _ => none
def banyD : List PyData → Option Opd
  | [.list xs] => (bools xs).map fun bs => .v (.bool (bs.any id))
  | _ => none
def bisaD (t : Ty) : List PyData → Option Opd
  | [d] => if d.plain then some (.v (.bool (isaD t d))) else none
  | _ => none
def blistrD : List PyData → Option Opd
  | [.int a, .int b] => if small62 a && small62 b && decide ((b - a).toNat ≤ 16777216) then some (.f (.list (rng a b))) else none
  | _ => none
def btuplerD : List PyData → Option Opd
  | [.int a, .int b] => if small62 a && small62 b && decide ((b - a).toNat ≤ 16777216) then some (.v (.tuple (rng a b))) else none
  | _ => none
def brevD : List PyData → Option Opd
  | [.list xs] => some (.f (.list xs.reverse))
  | _ => none
def bevenD : List PyData → Option Opd
  | [.tuple [a, _, c]] => some (.v (.tuple [a, c]))
  | _ => none
def bdict0D : List PyData → Option Opd
  | [] => some (.f (.dict []))
  | _ => none
def bdict1D : List PyData → Option Opd
  | [.int k, d] => if flat d then some (.f (.dict [(.int k, d)])) else none
  | _ => none
def bltD : Bf → List PyData → Option Opd
  | .len => blenD
  | .abs => babsD
  | .int => bintD
  | .sum => bsumD
  | .max => bmaxD
  | .min => bminD
  | .sorted => bsortedD
  | .tuple => btupleD
  | .list => blistD
  | .all => ballD
  | .any => banyD
  | .isa t => bisaD t
  | .listr => blistrD
  | .tupler => btuplerD
  | .rev => brevD
  | .dict0 => bdict0D
  | .dict1 => bdict1D
  | .even => bevenD
  | .maxd => fun _ => none
  | .mind => fun _ => none
  | .sortedr => fun _ => none
  | .str => fun _ => none
end DM
set_option Elab.async false
set_option linter.all false
set_option maxRecDepth 100000
/-! DM1: the run of code. -/
namespace DM
open PySem

/-! ### names -/
/-- store an operand for good -/
def putSl (i : Nat) (s : Sl) : M Unit := fun n => match n[i]? with
  | some (.own _ true _) => .bad
  | some _ => .ok () (n.set i s)
  | none => .bad
def put (i : Nat) (o : Opd) : M Unit := match o with
  | .v d => putSl i (.val d)
  | .f d => putSl i (.own false false d)
  | .s _ => bnd (keep o) fun d => putSl i (.val d)
mutual
/-- store a value into a target -/
def setT : Tg → PyData → M Unit
  | .nm i, d => putSl i (.val d)
  | .nil, _ => no
  | .cons _ _, _ => no
  | .tu ts, d => match d with
    | .tuple xs => setTs ts xs
    | _ => no
def setTs : Tg → List PyData → M Unit
  | .nil, xs => match xs with
    | [] => ret ()
    | _ => no
  | .cons t ts, xs => match xs with
    | x :: r => bnd (setT t x) fun _ => setTs ts r
    | [] => no
  | .nm _, _ => no
  | .tu _, _ => no
end
def lock : List Nat → En → Option En
  | [], n => some n
  | i :: is, n => match n[i]? with
    | some (.own _ pr d) => lock is (n.set i (.own true pr d))
    | some (.val _) => lock is n
    | _ => none
/-- was it free to be changed -/
def wasFree (n : En) (i : Nat) : Bool := match n[i]? with
  | some (.own false _ _) => true
  | _ => false
def unlock1 (b : Bool) (i : Nat) (n : En) : En := if b then (match n[i]? with
  | some (.own true pr d) => n.set i (.own false pr d)
  | _ => n) else n
def unlock (n0 : En) : List Nat → En → En
  | [], n => n
  | i :: is, n => unlock1 (wasFree n0 i) i (unlock n0 is n)
def Res.mapN {α : Type} (f : En → En) : Res α → Res α
  | .ok a n => .ok a (f n)
  | .err c p n => .err c p (f n)
  | .bad => .bad
/-- run with the lists walked not to be changed -/
def locked {α : Type} (src : List Nat) (m : M α) : M α := fun n => match lock src n with
  | some n1 => (m n1).mapN (unlock n src)
  | none => .bad

/-! ### what is walked -/
def enumD (ds : List PyData) : List PyData := (List.range ds.length).zipWith (fun (k : Nat) d => PyData.tuple [.int (k : Int), d]) ds
def signs (s : Str) : List PyData := s.cps.toList.map fun c => .str ⟨#[c]⟩
def srcOf : Opd → List Nat
  | .s i => [i]
  | _ => []
def walkD (d : PyData) : Option (List PyData) := match d with
  | .list xs => some xs
  | .tuple xs => some xs
  | .str s => some (signs s)
  | _ => none
def rngC (a c : Int) (n : Nat) : List PyData := (List.range n).map fun (k : Nat) => PyData.int (a + (k : Int) * c)
def walk (k : Ik) (os : List Opd) : M (List PyData × List Nat) := match k with
  | .plain => match os with
    | [o] => bnd (rd o) fun d => bnd (opt (walkD d)) fun xs => ret (xs, srcOf o)
    | _ => no
  | .range1 => bnd (rds os) fun ds => match ds with
    | [.int b] => if small62 b then ret (rng 0 b, []) else no
    | _ => no
  | .range2 => bnd (rds os) fun ds => match ds with
    | [.int a, .int b] => if small62 a && small62 b then ret (rng a b, []) else no
    | _ => no
  | .range3 => bnd (rds os) fun ds => match ds with
    | [.int a, .int b, .int c] => if c ≠ 0 ∧ c.natAbs < 1073741824 ∧ Builtin.Range.small a b c = true ∧ 0 ≤ Builtin.Range.rangeSize a b c then ret (rngC a c (Builtin.Range.rangeSize a b c).toNat, []) else no
    | _ => no
  | .enum => match os with
    | [o] => bnd (rd o) fun d => match d with
      | .list xs => ret (enumD xs, srcOf o)
      | _ => no
    | _ => no
  | .rev => match os with
    | [o] => bnd (rd o) fun d => match d with
      | .list xs => ret (xs.reverse, srcOf o)
      | .tuple xs => ret (xs.reverse, srcOf o)
      | _ => no
    | _ => no

/-! ### comprehensions -/
def wipeN (n : En) : List Nat → En
  | [] => n
  | i :: is => (wipeN n is).set i .emp
/-- the block's own names as they were -/
def backN (n0 n : En) : List Nat → En
  | [] => n
  | i :: is => (backN n0 n is).set i (n0[i]?.getD .emp)
def freeSl (n : En) (i : Nat) : Bool := match n[i]? with
  | some .emp => true
  | some (.val _) => true
  | _ => false
/-- the items, one after the other; a turn gives what is added -/
def turns (f : PyData → M (List PyData)) : List PyData → M (List PyData)
  | [] => ret []
  | x :: xs => bnd (f x) fun a => bnd (turns f xs) fun b => ret (a ++ b)
/-- a turn: the block's own names begin with nothing -/
def inBlock (own : List Nat) (m : M (List PyData)) : M (List PyData) := fun n => m (wipeN n own)
/-- a block: nothing is raised out of it; its own names are as they were behind it -/
def block (own : List Nat) (m : M (List PyData)) : M (List PyData) := fun n => if own.all (freeSl n) then (match m n with
  | .ok a n' => if a.length ≤ sizeLine then .ok a (backN n n' own) else .bad
  | _ => .bad) else .bad

/-! ### calls -/
/-- how a def is called: its number, what its names hold; what comes back, and its names behind -/
inductive Out where
  | ok (fr : Bool) (d : PyData) (fin : List Sl)
  | err (c : Nat) (pl : PyData) (fin : List Sl)
  | bad
/-- what comes back as an operand: a fresh list, a value -/
def mkO (fr : Bool) (d : PyData) : Opd := if fr then .f d else .v d
abbrev Cf := Nat → List Sl → Out
def ioSl : List Bool → List Opd → List Nat
  | true :: io, .s i :: os => i :: ioSl io os
  | _ :: io, _ :: os => ioSl io os
  | _, _ => []
def plSl : List Bool → List Opd → List Nat
  | false :: io, .s i :: os => i :: plSl io os
  | _ :: io, _ :: os => plSl io os
  | _, _ => []
def argOf (n : En) (io : Bool) (o : Opd) : Option Sl := match io, o with
  | true, .s i => match n[i]? with
    | some (.own false _ d) => some (.own false true d)
    | _ => none
  | true, _ => none
  | false, .v d => some (.val d)
  | false, .f d => some (.val d)
  | false, .s i => match n[i]? with
    | some (.own _ _ d) => some (.val d)
    | some (.val d) => some (.val d)
    | _ => none
def argsOf (n : En) : List Bool → List Opd → Option (List Sl)
  | [], [] => some []
  | io :: ios, o :: os => match argOf n io o, argsOf n ios os with
    | some a, some r => some (a :: r)
    | _, _ => none
  | _, _ => none
/-- the lists that were handed in to be changed, as they are behind -/
def backIO : List Bool → List Opd → List Sl → En → Option En
  | [], [], [], n => some n
  | true :: ios, .s i :: os, .own false true d :: fs, n => match n[i]? with
    | some (.own false pr _) => backIO ios os fs (n.set i (.own false pr d))
    | _ => none
  | false :: ios, _ :: os, _ :: fs, n => backIO ios os fs n
  | _, _, _, _ => none
def freeze : List Nat → En → Option En
  | [], n => some n
  | i :: is, n => match n[i]? with
    | some (.own _ false d) => freeze is (n.set i (.val d))
    | some (.val _) => freeze is n
    | _ => none
def flatSl : Sl → Bool
  | .own _ _ (.list ds) => flatAll ds
  | .own _ _ _ => false
  | _ => true
def freezeUnless (b : Bool) (is : List Nat) (n : En) : Option En := if b then some n else freeze is n
def callM (cf : Cf) (f : Nat) (ios : List Bool) (os : List Opd) : M Opd := fun n =>
  if (ioSl ios os).Nodup ∧ ∀ i ∈ ioSl ios os, i ∉ plSl ios os then
    match argsOf n ios os with
    | none => .bad
    | some as => match cf f as with
      | .ok fr d fin => match backIO ios os fin n with
        | none => .bad
        | some n1 => match freezeUnless (flatR (mkO fr d) && fin.all flatSl) (plSl ios os) n1 with
          | none => .bad
          | some n2 => .ok (mkO fr d) n2
      | .err c pl fin => match backIO ios os fin n with
        | none => .bad
        | some n1 => match freezeUnless (flatR (.v pl) && fin.all flatSl) (plSl ios os) n1 with
          | none => .bad
          | some n2 => .err c pl n2
      | .bad => .bad
  else .bad

/-! ### methods -/
/-- a list of one's own, changed -/
def change (o : Opd) (f : List PyData → Option (PyData × List PyData)) : M Opd := match o with
  | .s i => fun n => match n[i]? with
    | some (.own false pr (.list xs)) => match f xs with
      | some (r, ys) => .ok (.v r) (n.set i (.own false pr (.list ys)))
      | none => .bad
    | _ => .bad
  | _ => no
inductive Tag where
  | lst | tup | oth
def tagOf : PyData → Tag
  | .list _ => .lst
  | .tuple _ => .tup
  | _ => .oth
def popF (xs : List PyData) : Option (PyData × List PyData) := match xs[xs.length - 1]? with
  | some y => some (y, xs.dropLast)
  | none => none
def popAtF (i : Int) (xs : List PyData) : Option (PyData × List PyData) := if -(2 ^ 63) ≤ i ∧ i < 2 ^ 63 then (match seqIndex? i xs.length with
  | some k => match xs[k]? with
    | some y => some (y, xs.eraseIdx k)
    | none => none
  | none => none) else none
def insF (i : Int) (d : PyData) (xs : List PyData) : Option (PyData × List PyData) := if xs.length < sizeLine ∧ 0 ≤ i ∧ i < 2 ^ 63 then some (.none, xs.take i.toNat ++ [d] ++ xs.drop i.toNat) else none
def appF (d : PyData) (xs : List PyData) : Option (PyData × List PyData) := if xs.length < sizeLine then some (.none, xs ++ [d]) else none
def remF (d : PyData) (xs : List PyData) : Option (PyData × List PyData) := if dok (.list xs) && dok d then (match SeqAt.dataPlace xs d with
  | some j => some (.none, xs.eraseIdx j)
  | none => none) else none
def idxM (xs : List PyData) (d : PyData) : Option PyData := if dok (.list xs) && dok d then (SeqAt.dataPlace xs d).map fun (j : Nat) => PyData.int (j : Int) else none
def cntM (xs : List PyData) (d : PyData) : Option PyData := if dok (.list xs) && dok d then some (.int ((xs.countP fun y => PyData.eqv y d : Nat) : Int)) else none
/-- on which kinds a method may be called -/
def mthOk : Mf → Tag → Bool
  | _, .lst => true
  | .index, .tup => true
  | .count, .tup => true
  | _, _ => false
def seqT : Tag → PyData → Option (List PyData)
  | .lst, .list xs => some xs
  | .tup, .tuple xs => some xs
  | _, _ => none
/-- a question to a list or tuple -/
def askM (g : List PyData → PyData → Option PyData) (t : Tag) (o : Opd) (os : List Opd) : M Opd := bnd (rd o) fun x => bnd (rds os) fun ds => match ds with
  | [d] => bnd (opt (seqT t x)) fun xs => bnd (opt (g xs d)) fun r => ret (.v r)
  | _ => no
def mthM (m : Mf) (t : Tag) (o : Opd) (os : List Opd) : M Opd := match m with
  | .append => bnd (keeps os) fun ds => match ds with
    | [d] => change o (appF d)
    | _ => no
  | .pop => bnd (keeps os) fun ds => match ds with
    | [] => change o popF
    | _ => no
  | .popAt => bnd (keeps os) fun ds => match ds with
    | [.int i] => change o (popAtF i)
    | _ => no
  | .reverse => bnd (keeps os) fun ds => match ds with
    | [] => change o fun xs => some (.none, xs.reverse)
    | _ => no
  | .insert => bnd (keeps os) fun ds => match ds with
    | [.int k, d] => change o (insF k d)
    | _ => no
  | .remove => bnd (keeps os) fun ds => match ds with
    | [d] => change o (remF d)
    | _ => no
  | .index => askM idxM t o os
  | .count => askM cntM t o os

/-! ### expressions -/
def asInt (o : Opd) : M (Option Int) := bnd (rd o) fun d => match d with
  | .int i => ret (some i)
  | _ => no
def truM (o : Opd) : M Bool := bnd (rd o) fun d => opt (tru d)
mutual
def ev (cf : Cf) : Ex → M Opd
  | .var i => fun n => match n[i]? with
    | some (.val d) => .ok (.v d) n
    | some (.own ..) => .ok (.s i) n
    | _ => .bad
  | .con d => ret (.v d)
  | .bin op a b => bnd (ev cf a) fun x => bnd (ev cf b) fun y => bnd (rd x) fun d => bnd (rd y) fun e => opt (binD op d e)
  | .neg a => bnd (ev cf a) fun x => bnd (rd x) fun d => match d with
    | .int i => ret (.v (.int (-i)))
    | _ => no
  | .not a => bnd (ev cf a) fun x => bnd (truM x) fun b => ret (.v (.bool !b))
  | .and a b => bnd (ev cf a) fun x => bnd (truM x) fun t => if t then ev cf b else ret x
  | .or a b => bnd (ev cf a) fun x => bnd (truM x) fun t => if t then ret x else ev cf b
  | .cmp op a b => bnd (ev cf a) fun x => bnd (ev cf b) fun y => bnd (rd x) fun d => bnd (rd y) fun e => bnd (opt (cmpD op d e)) fun t => ret (.v (.bool t))
  | .cmp2 op op' a b c => bnd (ev cf a) fun x => bnd (ev cf b) fun y => bnd (rd x) fun d => bnd (rd y) fun e => bnd (opt (cmpD op d e)) fun t =>
      if t then bnd (ev cf c) fun z => bnd (rd y) fun e => bnd (rd z) fun g => bnd (opt (cmpD op' e g)) fun t => ret (.v (.bool t)) else ret (.v (.bool false))
  | .ife c a b => bnd (ev cf c) fun x => bnd (truM x) fun t => if t then ev cf a else ev cf b
  | .tup es => bnd (evs cf es) fun os => bnd (keeps os) fun ds => if ds.length ≤ sizeLine then ret (.v (.tuple ds)) else no
  | .lst es => bnd (evs cf es) fun os => bnd (keeps os) fun ds => if ds.length ≤ sizeLine then ret (.f (.list ds)) else no
  | .idx a i => bnd (ev cf a) fun x => bnd (ev cf i) fun y => bnd (rd x) fun d => bnd (rd y) fun e => bnd (opt (idxD d e)) fun g => ret (.v g)
  | .slc a lo hi => bnd (ev cf a) fun x => bnd (match lo with | .nil => ret none | _ => bnd (ev cf lo) asInt) fun l => bnd (match hi with | .nil => ret none | _ => bnd (ev cf hi) asInt) fun h => bnd (rd x) fun d => opt (slcD d l h)
  | .call f io es => bnd (evs cf es) fun os => callM cf f io os
  | .blt b es => bnd (evs cf es) fun os => bnd (rds os) fun ds => opt (bltD b ds)
  | .mth m o es => bnd (ev cf o) fun x => bnd (rd x) fun d => if mthOk m (tagOf d) then bnd (evs cf es) fun os => mthM m (tagOf d) x os else no
  | .comp own tg k its ifs elt => bnd (bnd (evs cf its) (walk k)) fun w => bnd (locked w.2 (block own (turns (fun x => inBlock own (bnd (setT tg x) fun _ => bnd (tst cf ifs) fun t =>
      if t then bnd (ev cf elt) fun o => bnd (keep o) fun d => ret [d] else ret [])) w.1))) fun ds => ret (.f (.list ds))
  | .comp2 own own1 tg k its ifs tg1 k1 its1 ifs1 elt => bnd (bnd (evs cf its) (walk k)) fun w => bnd (locked w.2 (block own (turns (fun x => inBlock own (bnd (setT tg x) fun _ => bnd (tst cf ifs) fun t =>
      if t then bnd (bnd (evs cf its1) (walk k1)) fun w1 => locked w1.2 (turns (fun y => inBlock own1 (bnd (setT tg1 y) fun _ => bnd (tst cf ifs1) fun t1 =>
        if t1 then bnd (ev cf elt) fun o => bnd (keep o) fun d => ret [d] else ret [])) w1.1) else ret [])) w.1))) fun ds => ret (.f (.list ds))
  | .nil => ret (.v .none)
  | .cons _ _ => no
def evs (cf : Cf) : Ex → M (List Opd)
  | .nil => ret []
  | .cons e es => bnd (ev cf e) fun o => bnd (evs cf es) fun os => ret (o :: os)
  | _ => no
/-- the tests of a clause: none or one -/
def tst (cf : Cf) : Ex → M Bool
  | .nil => ret true
  | .cons e _ => bnd (ev cf e) truM
  | _ => no
end

/-! ### statements -/
inductive Flow where
  | next
  | ret (o : Opd)
  | brk
  | cont
def seqM (a : M Flow) (b : M Flow) : M Flow := bnd a fun f => match f with
  | .next => b
  | f => ret f
/-- behind a turn -/
def nextT (r : M Flow) : Flow → M Flow
  | .next => r
  | .cont => r
  | .brk => ret .next
  | .ret o => ret (.ret o)
/-- the turns of a for -/
def turnsF (f : PyData → M Flow) : List PyData → M Flow
  | [] => ret .next
  | x :: xs => bnd (f x) (nextT (turnsF f xs))
/-- how often a while may turn -/
def fuel : Nat := 1000000
def whileF (t : M Bool) (b : M Flow) : Nat → M Flow
  | 0 => no
  | n + 1 => bnd t fun c => if c then bnd b (nextT (whileF t b n)) else ret .next
/-- an own list told by its value -/
def settle : Opd → M Opd
  | .s i => bnd (keep (.s i)) fun d => ret (.v d)
  | o => ret o
def settles : List Opd → M (List Opd)
  | [] => ret []
  | o :: os => bnd (settle o) fun p => bnd (settles os) fun ps => ret (p :: ps)
def putAll : List Nat → List Opd → M Unit
  | [], [] => ret ()
  | i :: is, o :: os => bnd (put i o) fun _ => putAll is os
  | _, _ => no
/-- xs[i] = d -/
def dictAt (o : Opd) (n : En) : Bool := match o with
  | .s i => match n[i]? with
    | some (.own _ _ (.dict _)) => true
    | _ => false
  | _ => false
/-- .. of a dict -/
def setD (o : Opd) (k : Int) (d : PyData) : M Unit := match o with
  | .s i => fun n => match n[i]? with
    | some (.own false pr (.dict kvs)) => if notFL kvs = true ∧ kvs.length < sizeLine then .ok () (n.set i (.own false pr (.dict (dput kvs k d)))) else .bad
    | _ => .bad
  | _ => no
/-- .. of a list -/
def setL (o : Opd) (i : Int) (d : PyData) : M Unit := bnd (change o fun xs => match L2.ixN xs.length i with
    | some j => some (.none, xs.set j d)
    | none => none) fun _ => ret ()
def setAt (o : Opd) (k d : PyData) : M Unit := match k with
  | .int i => fun n => if dictAt o n = true then setD o i d n else setL o i d n
  | _ => no
def setAtL (o : Opd) (k d : PyData) : M Unit := match k with
  | .int i => setL o i d
  | _ => no
def augD (op : Operator) (d e : PyData) : Option PyData := match op, d, e with
  | .Add, .int i, .int j => some (.int (i + j))
  | .Sub, .int i, .int j => some (.int (i - j))
  | _, _, _ => none
def augM (op : Operator) (i : Nat) (o : Opd) : M Unit := bnd (rd (.s i)) fun d => bnd (rd o) fun e => bnd (opt (augD op d e)) fun r => putSl i (.val r)
def exec (cf : Cf) : Sm → M Flow
  | .nil => ret .next
  | .seq s r => seqM (exec cf s) (exec cf r)
  | .asg i e => bnd (ev cf e) fun o => bnd (put i o) fun _ => ret .next
  | .asgT t e => bnd (ev cf e) fun o => bnd (rd o) fun d => bnd (setT t d) fun _ => ret .next
  | .par is es => bnd (evs cf es) fun os => bnd (settles os) fun os => bnd (putAll is os) fun _ => ret .next
  | .setI a i e => bnd (ev cf e) fun v => bnd (keep v) fun d => bnd (ev cf a) fun x => bnd (ev cf i) fun y => bnd (rd y) fun k => bnd (setAt x k d) fun _ => ret .next
  | .setII a i b j e => bnd (ev cf e) fun v => bnd (keep v) fun d => bnd (ev cf a) fun x => bnd (ev cf i) fun y => bnd (rd y) fun k => bnd (setAt x k d) fun _ =>
      bnd (ev cf b) fun x => bnd (ev cf j) fun y => bnd (rd y) fun k => bnd (setAt x k d) fun _ => ret .next
  | .swp a i b j es => bnd (evs cf es) fun os => bnd (keeps os) fun ds => match ds with
    | [d, g] => bnd (ev cf a) fun x => bnd (ev cf i) fun y => bnd (rd y) fun k => bnd (setAt x k d) fun _ =>
        bnd (ev cf b) fun x => bnd (ev cf j) fun y => bnd (rd y) fun k => bnd (setAt x k g) fun _ => ret .next
    | _ => no
  | .aug op i e => bnd (rd (.s i)) fun _ => bnd (ev cf e) fun o => bnd (augM op i o) fun _ => ret .next
  | .augS op a i e => bnd (ev cf a) fun x => bnd (ev cf i) fun y => bnd (rd x) fun xs => bnd (rd y) fun k => bnd (opt (match xs, k with | .list ds, .int i => L2.atI ds i | _, _ => none)) fun d =>
      bnd (ev cf e) fun z => bnd (rd z) fun g => bnd (opt (augD op d g)) fun r => bnd (setAtL x k r) fun _ => ret .next
  | .exp e => bnd (ev cf e) fun _ => ret .next
  | .ret e => bnd (ev cf e) fun o => ret (.ret o)
  | .retN => ret (.ret (.v .none))
  | .ife c a b => bnd (bnd (ev cf c) truM) fun t => if t then exec cf a else exec cf b
  | .forr tg k its b => bnd (bnd (evs cf its) (walk k)) fun w => locked w.2 (turnsF (fun x => bnd (setT tg x) fun _ => exec cf b) w.1)
  | .whl c b => whileF (bnd (ev cf c) truM) (exec cf b) fuel
  | .brk => ret .brk
  | .cont => ret .cont
  | .pass => ret .next
/-- what a def hands back: an own list as a fresh one -/
def retO (o : Opd) (n : En) : Option (Bool × PyData) := match o with
  | .v d => some (false, d)
  | .f d => some (true, d)
  | .s i => match n[i]? with
    | some (.own _ false d) => some (true, d)
    | some (.val d) => some (false, d)
    | _ => none
/-- of the parameters the lists handed in to be changed -/
def maskIO : List Bool → En → List Sl
  | [], _ => []
  | true :: io, s :: n => s :: maskIO io n
  | false :: io, _ :: n => .emp :: maskIO io n
  | _ :: io, [] => .emp :: maskIO io []
def finish (io : List Bool) : Res Flow → Out
  | .ok (.ret o) n => match retO o n with
    | some r => .ok r.1 r.2 (maskIO io n)
    | none => .bad
  | .ok .next n => .ok false .none (maskIO io n)
  | .err c pl n => .err c pl (maskIO io n)
  | _ => .bad
/-- the arguments fit the parameters: a list to be changed, or a value -/
def fitA : List Bool → List Sl → Bool
  | [], [] => true
  | true :: ios, .own false true _ :: as => fitA ios as
  | false :: ios, .val _ :: as => fitA ios as
  | _, _ => false
/-- the program's defs, by number, to a depth of calls -/
def run (p : List Fn) : Nat → Cf
  | 0, _, _ => .bad
  | k + 1, f, as => match p[f]? with
    | none => .bad
    | some fn => if fitA fn.io as && decide (fn.io.length ≤ fn.nl) then finish fn.io (exec (run p k) fn.body (as ++ List.replicate (fn.nl - fn.io.length) .emp)) else .bad
end DM
set_option Elab.async false
set_option linter.all false
set_option maxRecDepth 100000
/-! DM2: how the pure machine's state lies in the abstract heap. -/
namespace DM
open PySem PySem.Spec PyProof.Rows L2

/-! ### values -/
/-- a list of the written part -/
def KL (K : PySem.W.Frag) (a : Addr) (xs : List V) : Prop :=
  ∃ (o : Obj) (its : Array Value) (n : Nat), K.lookup a = some o ∧ o.cls = .type "list" ∧ o.dict = none ∧ o.data = .seq its n ∧ its.size ≤ sizeLine ∧ Vals xs its.toList
theorem SqL.cases {K : PySem.W.Frag} {H : Hp} {a : Addr} {xs : List V} (h : SqL K H a xs) : Rd H a (.lst xs) ∨ KL K a xs := h
/-- a tuple that has no dict of its own: made at run, or of the written part -/
def TD (K : PySem.W.Frag) (H : Hp) (a : Addr) (xs : List V) : Prop := (∃ ob : Obj, H a = some (.frz ob (.tup xs)) ∧ ob.dict = none) ∨
  ∃ (ob : Obj) (us : Array Value) (m : Nat), K.lookup a = some ob ∧ ob.cls = .type "tuple" ∧ ob.dict = none ∧ ob.data = .seq us m ∧ us.size ≤ sizeLine ∧ Vals xs us.toList
theorem TD.sqT {K : PySem.W.Frag} {H : Hp} {a : Addr} {xs : List V} (h : TD K H a xs) : SqT K H a xs := by
  rcases h with ⟨ob, h, _⟩ | ⟨ob, us, m, h1, h2, _, h4, h5, h6⟩
  · exact .inl (.inr ⟨ob, h⟩)
  · exact .inr ⟨ob, us, m, h1, h2, h4, h5, h6⟩
/-- a thing that may be changed: a list, a dict by numbers; what lies in it, what it is -/
inductive Cel : HO → List V → List PyData → PyData → Prop
  | lst {xs : List V} {ds : List PyData} : Cel (.lst xs) xs ds (.list ds)
  | dct {ks : List Int} {xs : List V} {ds : List PyData} (hl : ks.length = xs.length) : Cel (.dK ((ks.map fun k => (Sum.inl k : Key)).zip xs)) xs ds (.dict ((ks.map PyData.int).zip ds))
theorem Cel.pl {u : HO} {xs : List V} {ds : List PyData} {d : PyData} (c : Cel u xs ds d) (p : d.plain = true) : u = .lst xs ∧ d = .list ds := by
  cases c with
  | lst => exact ⟨rfl, rfl⟩
  | dct _ => simp [PyData.plain] at p
theorem Cel.pls {u : HO} {xs : List V} {ds : List PyData} {d : PyData} (c : Cel u xs ds d) (p : d.plain = true) : PyData.plainAll ds = true := by
  have e := (c.pl p).2
  subst e
  simpa [PyData.plain] using p
def Mut (u : HO) : Prop := ∃ xs ds d, Cel u xs ds d
theorem Mut.lst {xs : List V} {ds : List PyData} (_ : xs.length = ds.length) : Mut (.lst xs) := ⟨xs, ds, _, .lst⟩
theorem Mut.l (xs : List V) : Mut (.lst xs) := ⟨xs, [], _, .lst⟩
theorem Mut.nfrz {o : Obj} {u : HO} (h : Mut (.frz o u)) : False := by obtain ⟨_, _, _, c⟩ := h; cases c
mutual
/-- v stands for d; the lists at O belong to somebody -/
inductive RV (K : PySem.W.Frag) (H : Hp) (O : Addr → Prop) : V → PyData → Prop
  | non : RV K H O .non .none
  | bl (b : Bool) : RV K H O (.bl b) (.bool b)
  | int (i : Int) : RV K H O (.int i) (.int i)
  | str (x : Str) : RV K H O (.str x) (.str x)
  | lst {a : Addr} {u : HO} {xs : List V} {ds : List PyData} {d : PyData} : ¬ O a → H a = some u → Cel u xs ds d → RVs K H O xs ds → RV K H O (.ref a) d
  | frz {a : Addr} {xs : List V} {ds : List PyData} : ¬ O a → Rd H a (.lst xs) → RVs K H O xs ds → RV K H O (.ref a) (FL ds)
  | frzK {a : Addr} {xs : List V} {ds : List PyData} : KL K a xs → RVs K H O xs ds → RV K H O (.ref a) (FL ds)
  | tup {a : Addr} {xs : List V} {ds : List PyData} : TD K H a xs → RVs K H O xs ds → RV K H O (.ref a) (.tuple ds)
inductive RVs (K : PySem.W.Frag) (H : Hp) (O : Addr → Prop) : List V → List PyData → Prop
  | nil : RVs K H O [] []
  | cons {v : V} {vs : List V} {d : PyData} {ds : List PyData} : RV K H O v d → RVs K H O vs ds → RVs K H O (v :: vs) (d :: ds)
end
/-- what O's lists lean on -/
def LO (H : Hp) (O : Addr → Prop) : Prop := ∀ a, O a → ∃ u, H a = some u ∧ Mut u
/-- what stands stays, but for O's lists; O grows by new ones alone -/
structure Pres (H : Hp) (O : Addr → Prop) (H' : Hp) (O' : Addr → Prop) : Prop where
  keep : ∀ a o, H a = some o → ¬ O a → H' a = some o
  more : ∀ a, O' a → O a ∨ H a = none
section
variable {K : PySem.W.Frag} {H H' H'' : Hp} {O O' O'' : Addr → Prop}
theorem rd_of {a : Addr} {u : HO} (h : Rd H a u) (k : ∀ o, H a = some o → H' a = some o) : Rd H' a u := by
  rcases h with h | ⟨o, h⟩
  · exact .inl (k _ h)
  · exact .inr ⟨o, k _ h⟩
theorem rd_some {a : Addr} {u : HO} (h : Rd H a u) : H a ≠ none := by
  rcases h with h | ⟨o, h⟩ <;> (rw [h]; exact fun e => by cases e)
theorem TD.keep {a : Addr} {xs : List V} (l : LO H O) (h : TD K H a xs) (k : ∀ o, H a = some o → ¬ O a → H' a = some o) : TD K H' a xs := by
  rcases h with ⟨ob, h, hd⟩ | h
  · refine .inl ⟨ob, k _ h fun q => ?_, hd⟩
    obtain ⟨ys, e, m⟩ := l a q
    rw [h] at e
    cases e
    exact m.nfrz
  · exact .inr h
mutual
theorem RV.pres (l : LO H O) (p : Pres H O H' O') : ∀ {v : V} {d : PyData}, RV K H O v d → RV K H' O' v d
  | _, _, .non => .non
  | _, _, .bl b => .bl b
  | _, _, .int i => .int i
  | _, _, .str x => .str x
  | _, _, .lst ho h c q => .lst (fun z => (p.more _ z).elim ho fun e => by rw [h] at e; cases e) (p.keep _ _ h ho) c (RVs.pres l p q)
  | _, _, .frz ho h q => .frz (fun z => (p.more _ z).elim ho (rd_some h)) (rd_of h fun o e => p.keep _ o e ho) (RVs.pres l p q)
  | _, _, .frzK h q => .frzK h (RVs.pres l p q)
  | _, _, .tup h q => .tup (h.keep l fun o e n => p.keep _ o e n) (RVs.pres l p q)
theorem RVs.pres (l : LO H O) (p : Pres H O H' O') : ∀ {vs : List V} {ds : List PyData}, RVs K H O vs ds → RVs K H' O' vs ds
  | _, _, .nil => .nil
  | _, _, .cons h q => .cons (RV.pres l p h) (RVs.pres l p q)
end
mutual
theorem RV.anti (h : ∀ a, O' a → O a) : ∀ {v : V} {d : PyData}, RV K H O v d → RV K H O' v d
  | _, _, .non => .non
  | _, _, .bl b => .bl b
  | _, _, .int i => .int i
  | _, _, .str x => .str x
  | _, _, .lst ho r c q => .lst (fun z => ho (h _ z)) r c (RVs.anti h q)
  | _, _, .frz ho r q => .frz (fun z => ho (h _ z)) r (RVs.anti h q)
  | _, _, .frzK r q => .frzK r (RVs.anti h q)
  | _, _, .tup r q => .tup r (RVs.anti h q)
theorem RVs.anti (h : ∀ a, O' a → O a) : ∀ {vs : List V} {ds : List PyData}, RVs K H O vs ds → RVs K H O' vs ds
  | _, _, .nil => .nil
  | _, _, .cons r q => .cons (RV.anti h r) (RVs.anti h q)
end
mutual
/-- flat data lean on no lists -/
theorem RV.flat : ∀ {v : V} {d : PyData}, flat d = true → RV K H O v d → RV K H O' v d
  | _, _, _, .non => .non
  | _, _, _, .bl b => .bl b
  | _, _, _, .int i => .int i
  | _, _, _, .str x => .str x
  | _, _, f, .lst _ _ c _ => by cases c <;> simp [DM.flat] at f
  | _, _, f, .frz _ _ _ => by simp [DM.flat] at f
  | _, _, f, .frzK _ _ => by simp [DM.flat] at f
  | _, _, f, .tup h q => .tup h (RVs.flat (by simpa [DM.flat] using f) q)
theorem RVs.flat : ∀ {vs : List V} {ds : List PyData}, flatAll ds = true → RVs K H O vs ds → RVs K H O' vs ds
  | _, _, _, .nil => .nil
  | _, _, f, .cons h q => .cons (RV.flat (by simp [flatAll] at f; exact f.1) h) (RVs.flat (by simp [flatAll] at f; exact f.2) q)
end
theorem RVs.length : ∀ {vs : List V} {ds : List PyData}, RVs K H O vs ds → vs.length = ds.length
  | _, _, .nil => rfl
  | _, _, .cons _ q => by rw [List.length_cons, List.length_cons, RVs.length q]
theorem RVs.append : ∀ {vs ws : List V} {ds es : List PyData}, RVs K H O vs ds → RVs K H O ws es → RVs K H O (vs ++ ws) (ds ++ es)
  | _, _, _, _, .nil, q => q
  | _, _, _, _, .cons h r, q => .cons h (RVs.append r q)
theorem RVs.get : ∀ {vs : List V} {ds : List PyData} {i : Nat} {d : PyData}, RVs K H O vs ds → ds[i]? = some d → ∃ v, vs[i]? = some v ∧ RV K H O v d
  | _, _, _, _, .nil, e => by simp at e
  | _, _, 0, _, .cons h _, e => by
    simp at e
    subst e
    exact ⟨_, rfl, h⟩
  | _, _, i + 1, _, .cons _ q, e => by
    obtain ⟨v, h1, h2⟩ := RVs.get (i := i) q (by simpa using e)
    exact ⟨v, by simpa using h1, h2⟩
theorem RVs.get' {vs : List V} {ds : List PyData} {i : Nat} {v : V} (h : RVs K H O vs ds) (e : vs[i]? = some v) : ∃ d, ds[i]? = some d ∧ RV K H O v d := by
  have hl := h.length
  obtain ⟨hi, _⟩ := List.getElem?_eq_some_iff.mp e
  obtain ⟨w, e2, r⟩ := h.get (i := i) (List.getElem?_eq_getElem (by omega : i < ds.length))
  rw [e] at e2
  cases e2
  exact ⟨_, List.getElem?_eq_getElem _, r⟩
theorem RVs.set {v : V} {d : PyData} (r : RV K H O v d) : ∀ {vs : List V} {ds : List PyData} (i : Nat), RVs K H O vs ds → RVs K H O (vs.set i v) (ds.set i d)
  | _, _, _, .nil => .nil
  | _, _, 0, .cons _ q => .cons r q
  | _, _, i + 1, .cons h q => .cons h (RVs.set r i q)
theorem RVs.take : ∀ {vs : List V} {ds : List PyData} (i : Nat), RVs K H O vs ds → RVs K H O (vs.take i) (ds.take i)
  | _, _, 0, _ => .nil
  | _, _, _ + 1, .nil => .nil
  | _, _, i + 1, .cons h q => .cons h (RVs.take i q)
theorem RVs.drop : ∀ {vs : List V} {ds : List PyData} (i : Nat), RVs K H O vs ds → RVs K H O (vs.drop i) (ds.drop i)
  | _, _, 0, q => q
  | _, _, _ + 1, .nil => .nil
  | _, _, i + 1, .cons _ q => RVs.drop i q
theorem RVs.reverse {vs : List V} {ds : List PyData} (h : RVs K H O vs ds) : RVs K H O vs.reverse ds.reverse := by
  induction vs generalizing ds with
  | nil => cases h; exact .nil
  | cons v vs ih =>
    cases h with
    | cons r q =>
      rw [List.reverse_cons, List.reverse_cons]
      exact (ih q).append (.cons r .nil)
theorem RVs.eraseIdx : ∀ {vs : List V} {ds : List PyData} (i : Nat), RVs K H O vs ds → RVs K H O (vs.eraseIdx i) (ds.eraseIdx i)
  | _, _, _, .nil => .nil
  | _, _, 0, .cons _ q => q
  | _, _, i + 1, .cons h q => .cons h (RVs.eraseIdx i q)
theorem RVs.dropLast {vs : List V} {ds : List PyData} (h : RVs K H O vs ds) : RVs K H O vs.dropLast ds.dropLast := by
  rw [List.dropLast_eq_take, List.dropLast_eq_take, h.length]
  exact h.take _
theorem RVs.rep {vs : List V} {ds : List PyData} (h : RVs K H O vs ds) : ∀ k : Nat, RVs K H O (List.replicate k vs).flatten (List.replicate k ds).flatten
  | 0 => .nil
  | k + 1 => by
    rw [List.replicate_succ, List.replicate_succ, List.flatten_cons, List.flatten_cons]
    exact h.append (h.rep k)
theorem RVs.all {ds : List PyData} {vs : List V} (hl : vs.length = ds.length) (h : ∀ (i : Nat) v d, vs[i]? = some v → ds[i]? = some d → RV K H O v d) : RVs K H O vs ds := by
  induction vs generalizing ds with
  | nil =>
    cases ds with
    | nil => exact .nil
    | cons _ _ => cases hl
  | cons v vs ih =>
    cases ds with
    | nil => cases hl
    | cons d ds => exact .cons (h 0 v d rfl rfl) (ih (by simpa using hl) fun i w e h1 h2 => h (i + 1) w e (by simpa using h1) (by simpa using h2))
mutual
theorem RV.dp : ∀ {v : V} {d : PyData}, d.plain = true → RV K H O v d → Dp K H v d
  | _, _, _, .non => .non
  | _, _, _, .bl b => .bl b
  | _, _, _, .int i => .int i
  | _, _, _, .str x => .str x
  | _, _, p, .lst _ h c q => (c.pl p).2 ▸ Dp.lst (.inl (.inl ((c.pl p).1 ▸ h))) (RVs.dp (c.pls p) q)
  | _, _, p, .frz _ _ _ => by simp [PyData.plain] at p
  | _, _, p, .frzK _ _ => by simp [PyData.plain] at p
  | _, _, p, .tup h q => .tup h.sqT (RVs.dp (by simpa [PyData.plain] using p) q)
theorem RVs.dp : ∀ {vs : List V} {ds : List PyData}, PyData.plainAll ds = true → RVs K H O vs ds → DpAll K H vs ds
  | _, _, _, .nil => .nil
  | _, _, p, .cons h q => .cons (RV.dp (by simp [PyData.plainAll] at p; exact p.1) h) (RVs.dp (by simp [PyData.plainAll] at p; exact p.2) q)
end
end

/-- a list of one's own at a -/
def OV (K : PySem.W.Frag) (H : Hp) (O : Addr → Prop) (a : Addr) (d : PyData) : Prop := ∃ u xs ds, Cel u xs ds d ∧ H a = some u ∧ RVs K H O xs ds
/-- v reads as d for a moment: a value, or a list of one's own -/
def RT (K : PySem.W.Frag) (H : Hp) (O : Addr → Prop) (v : V) (d : PyData) : Prop := RV K H O v d ∨ ∃ a, v = .ref a ∧ OV K H O a d
section
variable {K : PySem.W.Frag} {H H' : Hp} {O O' : Addr → Prop} {v : V}
theorem RT.dp {d : PyData} (p : d.plain = true) (h : RT K H O v d) : Dp K H v d := by
  rcases h with h | ⟨a, rfl, u, xs, ds, c, e, q⟩
  · exact h.dp p
  · cases c with
    | lst => exact .lst (.inl (.inl e)) (q.dp (by simpa [PyData.plain] using p))
    | dct _ => simp [PyData.plain] at p
theorem RT.int {i : Int} (h : RT K H O v (.int i)) : v = .int i := by
  rcases h with h | ⟨a, rfl, u, xs, ds, c, _⟩
  · cases h with
    | lst _ _ c _ => cases c
    | _ => rfl
  · cases c
theorem RT.bl {i : Bool} (h : RT K H O v (.bool i)) : v = .bl i := by
  rcases h with h | ⟨a, rfl, u, xs, ds, c, _⟩
  · cases h with
    | lst _ _ c _ => cases c
    | _ => rfl
  · cases c
theorem RV.i {i : Int} (h : RV K H O v (.int i)) : v = .int i := RT.int (.inl h)
theorem RV.b {i : Bool} (h : RV K H O v (.bool i)) : v = .bl i := RT.bl (.inl h)
theorem RT.str {i : Str} (h : RT K H O v (.str i)) : v = .str i := by
  rcases h with h | ⟨a, rfl, u, xs, ds, c, _⟩
  · cases h with
    | lst _ _ c _ => cases c
    | _ => rfl
  · cases c
theorem RT.non (h : RT K H O v .none) : v = .non := by
  rcases h with h | ⟨a, rfl, u, xs, ds, c, _⟩
  · cases h with
    | lst _ _ c _ => cases c
    | _ => rfl
  · cases c
theorem RT.list {ds : List PyData} (h : RT K H O v (.list ds)) : ∃ a xs, v = .ref a ∧ H a = some (.lst xs) ∧ RVs K H O xs ds := by
  rcases h with h | ⟨a, rfl, u, xs, ds, c, h1, h2⟩
  · cases h with
    | lst _ h c q => cases c; exact ⟨_, _, rfl, h, q⟩
  · cases c
    exact ⟨_, _, rfl, h1, h2⟩
theorem noFL {u : HO} {xs : List V} {es ds : List PyData} (c : Cel u xs es (FL ds)) : False := by
  generalize hd : FL ds = d at c
  cases c with
  | lst => cases hd
  | @dct ks _ _ _ =>
    cases ks with
    | nil => cases hd
    | cons k ks => cases es <;> cases hd
theorem RT.fl {ds : List PyData} (h : RT K H O v (FL ds)) : ∃ a xs, v = .ref a ∧ SqL K H a xs ∧ RVs K H O xs ds := by
  rcases h with h | ⟨a, rfl, u, xs, es, c, h1, h2⟩
  · generalize hd : FL ds = d at h
    cases h with
    | frz _ h q => cases hd; exact ⟨_, _, rfl, .inl h, q⟩
    | frzK h q => cases hd; exact ⟨_, _, rfl, .inr h, q⟩
    | lst _ _ c _ => subst hd; exact (noFL c).elim
    | _ => cases hd
  · exact (noFL c).elim
theorem RT.tup {ds : List PyData} (h : RT K H O v (.tuple ds)) : ∃ a xs, v = .ref a ∧ TD K H a xs ∧ RVs K H O xs ds := by
  rcases h with h | ⟨a, rfl, u, xs, ds, c, h1, h2⟩
  · cases h with
    | tup h q => exact ⟨_, _, rfl, h, q⟩
    | lst _ _ c _ => cases c
  · cases c
end

/-! ### dicts by numbers -/
section
variable {K : PySem.W.Frag} {H H' : Hp} {O O' : Addr → Prop} {v : V}
abbrev KZ (ks : List Int) (xs : List V) : List (Key × V) := (ks.map fun k => (Sum.inl k : Key)).zip xs
abbrev DZ (ks : List Int) (ds : List PyData) : List (PyData × PyData) := (ks.map PyData.int).zip ds
theorem KZ_cons {j : Int} {ks : List Int} {x : V} {xs : List V} : KZ (j :: ks) (x :: xs) = (Sum.inl j, x) :: KZ ks xs := rfl
theorem DZ_cons {j : Int} {ks : List Int} {x : PyData} {xs : List PyData} : DZ (j :: ks) (x :: xs) = (.int j, x) :: DZ ks xs := rfl
theorem RT.dz {kvs : List (PyData × PyData)} (h : RT K H O v (.dict kvs)) (hn : notFL kvs = true) : ∃ a ks xs ds, v = .ref a ∧ kvs = DZ ks ds ∧ ks.length = xs.length ∧ H a = some (.dK (KZ ks xs)) ∧ RVs K H O xs ds := by
  rcases h with h | ⟨a, rfl, u, xs, ds, c, h1, h2⟩
  · generalize hd : PyData.dict kvs = d at h
    cases h with
    | frz _ h q => cases hd; cases hn
    | frzK h q => cases hd; cases hn
    | lst _ h c q =>
      subst hd
      cases c with
      | dct hl => exact ⟨_, _, _, _, rfl, rfl, hl, h, q⟩
    | _ => cases hd
  · cases c with
    | dct hl => exact ⟨_, _, _, _, rfl, rfl, hl, h1, h2⟩
theorem dget_pos {j : Int} {d : PyData} {r : List (PyData × PyData)} : dget ((.int j, d) :: r) j = some d := by simp [dget, keyEq]
theorem dget_neg {j k : Int} {d : PyData} {r : List (PyData × PyData)} (h : ¬ j = k) : dget ((.int j, d) :: r) k = dget r k := by simp [dget, keyEq, h]
theorem dz_get (k : Int) : ∀ {ks : List Int} {xs : List V} {ds : List PyData}, RVs K H O xs ds → ks.length = xs.length → (∀ d, dget (DZ ks ds) k = some d → ∃ v, valV (KZ ks xs) (Sum.inl k) = some v ∧ RV K H O v d) ∧ (dget (DZ ks ds) k = none → valV (KZ ks xs) (Sum.inl k) = none)
  | [], [], _, .nil, _ => ⟨fun d h => (nomatch h), fun _ => rfl⟩
  | j :: ks, x :: xs, d :: ds, .cons h q, hl => by
    have ih := dz_get k (ks := ks) q (by simpa using hl)
    by_cases e : j = k
    · subst e
      have e1 : dget (DZ (j :: ks) (d :: ds)) j = some d := dget_pos
      have e2 : valV (KZ (j :: ks) (x :: xs)) (Sum.inl j) = some x := valV_pos (p := (Sum.inl j, x)) rfl
      rw [e1, e2]
      exact ⟨fun d' hd => ⟨x, rfl, (Option.some.inj hd) ▸ h⟩, fun z => nomatch z⟩
    · have e1 : dget (DZ (j :: ks) (d :: ds)) k = dget (DZ ks ds) k := dget_neg e
      have e2 : valV (KZ (j :: ks) (x :: xs)) (Sum.inl k) = valV (KZ ks xs) (Sum.inl k) := valV_neg (p := (Sum.inl j, x)) fun z => e (Sum.inl.inj z)
      rw [e1, e2]
      exact ih
  | [], _ :: _, _, _, hl => by simp at hl
  | _ :: _, [], _, _, hl => by simp at hl
theorem dz_some (k : Int) {ks : List Int} {xs : List V} {ds : List PyData} (h : RVs K H O xs ds) (hl : ks.length = xs.length) : (valV (KZ ks xs) (Sum.inl k)).isSome = (dget (DZ ks ds) k).isSome := by
  obtain ⟨g1, g2⟩ := dz_get k h hl
  cases e : dget (DZ ks ds) k with
  | some d =>
    obtain ⟨v, e1, _⟩ := g1 d e
    rw [e1]
    rfl
  | none => rw [g2 e]; rfl
theorem dz_len {ks : List Int} {xs : List V} {ds : List PyData} (h : RVs K H O xs ds) (hl : ks.length = xs.length) : (DZ ks ds).length = ks.length ∧ (KZ ks xs).length = ks.length := by
  have := h.length
  simp
  omega
theorem dz_keys {ks : List Int} {xs : List V} {ds : List PyData} (h : RVs K H O xs ds) (hl : ks.length = xs.length) : (DZ ks ds).map (·.1) = ks.map PyData.int ∧ (KZ ks xs).map (·.1) = ks.map fun k => (Sum.inl k : Key) := by
  have := h.length
  constructor
  · rw [List.map_fst_zip (by rw [List.length_map]; omega)]
  · rw [List.map_fst_zip (by rw [List.length_map]; omega)]
/-- what is under k, told anew -/
def repD {α : Type} (k : Int) (y : α) : List Int → List α → List α
  | j :: ks, x :: xs => (if j = k then y else x) :: repD k y ks xs
  | _, _ => []
theorem repD_len {α : Type} (k : Int) (y : α) : ∀ {ks : List Int} {xs : List α}, ks.length = xs.length → (repD k y ks xs).length = xs.length
  | [], [], _ => rfl
  | _ :: ks, _ :: xs, h => by
    show (repD k y ks xs).length + 1 = xs.length + 1
    rw [repD_len k y (by simpa using h)]
  | [], _ :: _, h => by simp at h
  | _ :: _, [], h => by simp at h
theorem repD_rv {k : Int} {y : V} {g : PyData} (r : RV K H O y g) : ∀ {ks : List Int} {xs : List V} {ds : List PyData}, RVs K H O xs ds → ks.length = xs.length → RVs K H O (repD k y ks xs) (repD k g ks ds)
  | [], _, _, .nil, _ => .nil
  | j :: ks, _, _, .cons h q, hl => by
    refine .cons ?_ (repD_rv r q (by simpa using hl))
    by_cases e : j = k
    · rw [if_pos e, if_pos e]; exact r
    · rw [if_neg e, if_neg e]; exact h
  | _ :: _, _, _, .nil, hl => by simp at hl
  | [], _, _, .cons _ _, hl => by simp at hl
theorem kz_rep (k : Int) (y : V) : ∀ {ks : List Int} {xs : List V}, ks.length = xs.length → ((KZ ks xs).map fun kv => if kv.1 = Sum.inl k then (kv.1, y) else kv) = KZ ks (repD k y ks xs)
  | [], [], _ => rfl
  | j :: ks, x :: xs, h => by
    have ih := kz_rep k y (ks := ks) (xs := xs) (by simpa using h)
    have e0 : KZ (j :: ks) (repD k y (j :: ks) (x :: xs)) = (Sum.inl j, if j = k then y else x) :: KZ ks (repD k y ks xs) := rfl
    rw [KZ_cons, List.map_cons, ih, e0]
    congr 1
    by_cases e : j = k
    · subst e; simp
    · rw [if_neg (fun z => e (Sum.inl.inj z)), if_neg e]
  | [], _ :: _, h => by simp at h
  | _ :: _, [], h => by simp at h
theorem dz_rep (k : Int) (g : PyData) : ∀ {ks : List Int} {ds : List PyData}, ks.length = ds.length → ((DZ ks ds).map fun p => if keyEq p k = true then (p.1, g) else p) = DZ ks (repD k g ks ds)
  | [], [], _ => rfl
  | j :: ks, x :: xs, h => by
    have ih := dz_rep k g (ks := ks) (ds := xs) (by simpa using h)
    have e0 : DZ (j :: ks) (repD k g (j :: ks) (x :: xs)) = (PyData.int j, if j = k then g else x) :: DZ ks (repD k g ks xs) := rfl
    rw [DZ_cons, List.map_cons, ih, e0]
    congr 1
    show (if (j == k) = true then (PyData.int j, g) else (PyData.int j, x)) = _
    by_cases e : j = k
    · subst e; rw [if_pos (by simp), if_pos rfl]
    · rw [if_neg (by simpa using e), if_neg e]
  | [], _ :: _, h => by simp at h
  | _ :: _, [], h => by simp at h
/-- a store -/
theorem dz_put (k : Int) {y : V} {g : PyData} (r : RV K H O y g) {ks : List Int} {xs : List V} {ds : List PyData} (h : RVs K H O xs ds) (hl : ks.length = xs.length) :
    ∃ ks' xs' ds', putK (KZ ks xs) (Sum.inl k) y = KZ ks' xs' ∧ dput (DZ ks ds) k g = DZ ks' ds' ∧ ks'.length = xs'.length ∧ RVs K H O xs' ds' := by
  have hx := h.length
  obtain ⟨g1, g2⟩ := dz_get k h hl
  cases e : dget (DZ ks ds) k with
  | some d =>
    obtain ⟨v, e1, _⟩ := g1 d e
    refine ⟨ks, repD k y ks xs, repD k g ks ds, ?_, ?_, by rw [repD_len k y hl]; exact hl, repD_rv r h hl⟩
    · unfold putK
      rw [valV_any, e1, if_pos Option.isSome_some, kz_rep k y hl]
    · unfold dput
      rw [e, if_pos Option.isSome_some, dz_rep k g (by omega)]
  | none =>
    have e1 := g2 e
    refine ⟨ks ++ [k], xs ++ [y], ds ++ [g], ?_, ?_, by simp [hl], h.append (.cons r .nil)⟩
    · rw [putK_new y e1]
      unfold KZ
      rw [List.map_append, List.zip_append (by rw [List.length_map]; exact hl)]
      rfl
    · unfold dput
      rw [e, if_neg (by simp)]
      unfold DZ
      rw [List.map_append, List.zip_append (by rw [List.length_map]; omega)]
      rfl
end

/-! ### the state -/
def Exc (n : En) (σ : L2.St) (a : Addr) : Prop := ∃ (i : Nat) (l p : Bool) (d : PyData), n[i]? = some (.own l p d) ∧ σ[i]? = some (some (.ref a))
def Mu (n : En) (σ : L2.St) (a : Addr) : Prop := ∃ (i : Nat) (p : Bool) (d : PyData), n[i]? = some (.own false p d) ∧ σ[i]? = some (some (.ref a))
theorem Mu.exc {n : En} {σ : L2.St} {a : Addr} (h : Mu n σ a) : Exc n σ a := let ⟨i, p, d, h1, h2⟩ := h; ⟨i, false, p, d, h1, h2⟩
abbrev OE (E : Addr → Prop) (n : En) (σ : L2.St) : Addr → Prop := fun a => E a ∨ Exc n σ a
structure Rel (K : PySem.W.Frag) (E : Addr → Prop) (n : En) (σ : L2.St) (H : Hp) : Prop where
  len : n.length = σ.length
  val : ∀ (i : Nat) d, n[i]? = some (.val d) → ∃ v, σ[i]? = some (some v) ∧ RV K H (OE E n σ) v d
  own : ∀ (i : Nat) l p d, n[i]? = some (.own l p d) → ∃ a, σ[i]? = some (some (.ref a)) ∧ OV K H (OE E n σ) a d ∧ ¬ E a
  apart : ∀ (i j : Nat) a l p d l' p' d', n[i]? = some (.own l p d) → n[j]? = some (.own l' p' d') → σ[i]? = some (some (.ref a)) → σ[j]? = some (some (.ref a)) → i = j
  noexc : ∀ (i : Nat) c pl, n[i]? ≠ some (.exc c pl)
  ext : LO H E
theorem Rel.lo {K : PySem.W.Frag} {E : Addr → Prop} {n : En} {σ : L2.St} {H : Hp} (r : Rel K E n σ H) : LO H (OE E n σ) := fun a h => by
  rcases h with h | ⟨i, l, p, d, h1, h2⟩
  · exact r.ext a h
  · obtain ⟨b, e, ⟨u, xs, ds, c, q, _⟩, _⟩ := r.own i l p d h1
    rw [h2] at e
    cases e
    exact ⟨u, q, xs, ds, d, c⟩
/-- .. of the heap alone -/
structure St0 (n : En) (σ : L2.St) (H : Hp) (n' : En) (σ' : L2.St) (H' : Hp) : Prop where
  fr : ∀ a o, H a = some o → ¬ Mu n σ a → H' a = some o
  tr : ∀ a, H a ≠ none → H' a ≠ none
  mu : ∀ a, Mu n' σ' a → Mu n σ a ∨ H a = none
  ex : ∀ a, Exc n' σ' a → Exc n σ a ∨ H a = none
structure Step (n : En) (σ : L2.St) (H : Hp) (n' : En) (σ' : L2.St) (H' : Hp) : Prop where
  fr : ∀ a o, H a = some o → ¬ Mu n σ a → H' a = some o
  tr : ∀ a, H a ≠ none → H' a ≠ none
  mu : ∀ a, Mu n' σ' a → Mu n σ a ∨ H a = none
  ex : ∀ a, Exc n' σ' a → Exc n σ a ∨ H a = none
  pr : ∀ (i : Nat) l d, n[i]? = some (.own l true d) → ∃ l' d', n'[i]? = some (.own l' true d') ∧ σ'[i]? = σ[i]?
  lk : ∀ (i : Nat) p d, n'[i]? = some (.own true p d) → ∃ d', n[i]? = some (.own true p d') ∧ σ'[i]? = σ[i]?
section
variable {n n1 n2 : En} {σ σ1 σ2 : L2.St} {H H1 H2 : Hp}
theorem Step.refl : Step n σ H n σ H := ⟨fun _ _ e _ => e, fun _ e => e, fun _ e => .inl e, fun _ e => .inl e, fun i l d e => ⟨l, d, e, rfl⟩, fun i p d e => ⟨d, e, rfl⟩⟩
theorem Step.trans (a : Step n σ H n1 σ1 H1) (b : Step n1 σ1 H1 n2 σ2 H2) : Step n σ H n2 σ2 H2 where
  fr := fun x o e m => b.fr x o (a.fr x o e m) fun z => (a.mu x z).elim m fun q => by rw [e] at q; cases q
  tr := fun x e => b.tr x (a.tr x e)
  mu := fun x z => (b.mu x z).elim (a.mu x) fun q => by
    by_cases h : H x = none
    · exact .inr h
    · exact absurd q (a.tr x h)
  ex := fun x z => (b.ex x z).elim (a.ex x) fun q => by
    by_cases h : H x = none
    · exact .inr h
    · exact absurd q (a.tr x h)
  pr := fun i l d e => by
    obtain ⟨l1, d1, e1, s1⟩ := a.pr i l d e
    obtain ⟨l2, d2, e2, s2⟩ := b.pr i l1 d1 e1
    exact ⟨l2, d2, e2, s2.trans s1⟩
  lk := fun i p d e => by
    obtain ⟨d1, e1, s1⟩ := b.lk i p d e
    obtain ⟨d2, e2, s2⟩ := a.lk i p d1 e1
    exact ⟨d2, e2, s1.trans s2⟩
/-- nothing was changed -/
theorem Step.same (h : Same H H1) : Step n σ H n σ H1 := by
  refine ⟨fun a o e _ => h a o e, fun a e => ?_, fun _ e => .inl e, fun _ e => .inl e, fun i l d e => ⟨l, d, e, rfl⟩, fun i p d e => ⟨d, e, rfl⟩⟩
  cases q : H a with
  | none => exact absurd q e
  | some o => rw [h a o q]; exact fun z => by cases z
theorem Step.st0 (s : Step n σ H n1 σ1 H1) : St0 n σ H n1 σ1 H1 := ⟨s.fr, s.tr, s.mu, s.ex⟩
theorem St0.trans (a : St0 n σ H n1 σ1 H1) (b : St0 n1 σ1 H1 n2 σ2 H2) : St0 n σ H n2 σ2 H2 where
  fr := fun x o e m => b.fr x o (a.fr x o e m) fun z => (a.mu x z).elim m fun q => by rw [e] at q; cases q
  tr := fun x e => b.tr x (a.tr x e)
  mu := fun x z => (b.mu x z).elim (a.mu x) fun q => by
    by_cases h : H x = none
    · exact .inr h
    · exact absurd q (a.tr x h)
  ex := fun x z => (b.ex x z).elim (a.ex x) fun q => by
    by_cases h : H x = none
    · exact .inr h
    · exact absurd q (a.tr x h)
/-- what is known of values stays behind a step -/
theorem Rel.pres0 {K : PySem.W.Frag} {E E' : Addr → Prop} (r : Rel K E n σ H) (s : St0 n σ H n1 σ1 H1) (hE : ∀ a, E' a → E a ∨ H a = none) : Pres H (OE E n σ) H1 (OE E' n1 σ1) :=
  ⟨fun a o e h => s.fr a o e fun m => h (.inr m.exc), fun a h => by
    rcases h with h | h
    · exact (hE a h).imp .inl id
    · exact (s.ex a h).imp .inr id⟩
theorem Rel.pres {K : PySem.W.Frag} {E E' : Addr → Prop} (r : Rel K E n σ H) (s : Step n σ H n1 σ1 H1) (hE : ∀ a, E' a → E a ∨ H a = none) : Pres H (OE E n σ) H1 (OE E' n1 σ1) := r.pres0 s.st0 hE
end
end DM
set_option Elab.async false
set_option linter.all false
set_option maxRecDepth 100000
/-! DM3: readings made of the pure machine's runs; operands read, kept, carried. -/
namespace DM
open PySem PySem.Spec PyProof.Rows L2

/-- the text's facts: the written part, the error classes' addresses and names -/
structure GX where
  K : PySem.W.Frag
  xc : Nat → Addr
  xn : Nat → Str

def tmp (o : Opd) (v : V) (a : Addr) : Prop := match o with
  | .f _ => v = .ref a
  | _ => False
def Od (K : PySem.W.Frag) (H : Hp) (O : Addr → Prop) (σ : L2.St) (o : Opd) (v : V) : Prop := match o with
  | .v d => RV K H O v d
  | .f d => ∃ a, v = .ref a ∧ OV K H O a d
  | .s i => σ[i]? = some (some v)
abbrev orP (E F : Addr → Prop) : Addr → Prop := fun a => E a ∨ F a
section
variable {K : PySem.W.Frag} {H H' H1 H2 : Hp} {O O' : Addr → Prop} {σ σ' : L2.St} {n n' n1 n2 : En} {E E' E1 : Addr → Prop} {v : V} {o : Opd} {d : PyData}

theorem OV.anti {a : Addr} (h : ∀ a, O' a → O a) : OV K H O a d → OV K H O' a d := fun ⟨u, xs, ds, c, q, r⟩ => ⟨u, xs, ds, c, q, r.anti h⟩
theorem OV.pres {a : Addr} (l : LO H O) (p : Pres H O H' O') (hk : ∀ u, H a = some u → H' a = some u) : OV K H O a d → OV K H' O' a d := fun ⟨u, xs, ds, c, q, r⟩ => ⟨u, xs, ds, c, hk _ q, r.pres l p⟩
theorem RT.anti (h : ∀ a, O' a → O a) : RT K H O v d → RT K H O' v d := fun r => r.imp (fun r => r.anti h) fun ⟨a, e, q⟩ => ⟨a, e, q.anti h⟩
theorem Od.anti (h : ∀ a, O' a → O a) : Od K H O σ o v → Od K H O' σ o v := fun r => by
  cases o with
  | v d => exact RV.anti h r
  | f d => exact let ⟨a, e, q⟩ := r; ⟨a, e, q.anti h⟩
  | s i => exact r

/-! ### the state, less or more owned elsewhere -/
theorem Rel.weak (r : Rel K E n σ H) (h : ∀ a, E' a → E a) : Rel K E' n σ H where
  len := r.len
  val := fun i d e => let ⟨v, h1, h2⟩ := r.val i d e; ⟨v, h1, h2.anti fun a z => z.imp (h a) id⟩
  own := fun i l p d e => let ⟨a, h1, h2, h3⟩ := r.own i l p d e; ⟨a, h1, h2.anti fun a z => z.imp (h a) id, fun z => h3 (h a z)⟩
  apart := r.apart
  noexc := r.noexc
  ext := fun a z => r.ext a (h a z)
theorem Same.pres (s : Same H H') (hE : ∀ a, O' a → O a ∨ H a = none) : Pres H O H' O' := ⟨fun a o e _ => s a o e, hE⟩
/-- what stands stays; more is owned elsewhere, of what is new -/
theorem Rel.grow (r : Rel K E n σ H) (s : Same H H') (hE : ∀ a, E' a → E a ∨ H a = none) (hl : ∀ a, E' a → H a = none → ∃ u, H' a = some u ∧ Mut u) : Rel K E' n σ H' := by
  have p : Pres H (OE E n σ) H' (OE E' n σ) := Same.pres s fun a z => z.elim (fun z => (hE a z).imp .inl id) fun z => .inl (.inr z)
  refine ⟨r.len, fun i d e => ?_, fun i l q d e => ?_, r.apart, r.noexc, fun a z => ?_⟩
  · obtain ⟨v, h1, h2⟩ := r.val i d e
    exact ⟨v, h1, h2.pres r.lo p⟩
  · obtain ⟨a, h1, h2, h3⟩ := r.own i l q d e
    refine ⟨a, h1, h2.pres r.lo p fun u => s a u, fun z => ?_⟩
    obtain ⟨u, xs, ds, _, q, _⟩ := h2
    rcases hE a z with z | z
    · exact h3 z
    · rw [q] at z
      cases z
  · rcases hE a z with q | q
    · obtain ⟨u, e, m⟩ := r.ext a q
      exact ⟨u, s a _ e, m⟩
    · exact hl a z q
/-- an operand behind a further step -/
theorem Od.carry (h : Od K H (OE E n σ) σ o v) (r : Rel K E n σ H) (st : Step n σ H n1 σ H1) (hE : ∀ a, E1 a → E a ∨ H a = none) (ht : ∀ a, tmp o v a → E a) : Od K H1 (OE E1 n1 σ) σ o v := by
  have p := r.pres st hE
  cases o with
  | v d => exact RV.pres r.lo p h
  | s i => exact h
  | f d =>
    obtain ⟨a, e, q⟩ := h
    refine ⟨a, e, q.pres r.lo p fun u z => st.fr a u z fun m => ?_⟩
    obtain ⟨i, l, pp, d', h1, h2⟩ := m.exc
    obtain ⟨b, e1, _, e3⟩ := r.own i l pp d' h1
    rw [h2] at e1
    cases e1
    exact e3 (ht a e)
theorem tmp_of_ne {a : Addr} (h : tmp o v a) : ∃ d, o = .f d := by
  cases o with
  | f d => exact ⟨d, rfl⟩
  | v d => exact h.elim
  | s i => exact h.elim

/-! ### operands read -/
theorem rd_ok {d : PyData} (r : Rel K E n σ H) (h : Od K H (OE E n σ) σ o v) (e : rd o n = .ok d n') : n' = n ∧ RT K H (OE E n σ) v d := by
  cases o with
  | v d' =>
    cases e
    exact ⟨rfl, .inl h⟩
  | f d' =>
    cases e
    exact ⟨rfl, .inr h⟩
  | s i =>
    simp only [rd] at e
    split at e
    · rename_i l p d' hs
      cases e
      obtain ⟨a, h1, h2, _⟩ := r.own i l p d hs
      have h' : σ[i]? = some (some v) := h
      rw [h1] at h'
      cases h'
      exact ⟨rfl, .inr ⟨a, rfl, h2⟩⟩
    · rename_i d' hs
      cases e
      obtain ⟨w, h1, h2⟩ := r.val i d hs
      have h' : σ[i]? = some (some v) := h
      rw [h1] at h'
      cases h'
      exact ⟨rfl, .inl h2⟩
    · cases e
theorem rd_noerr {c : Nat} {pl : PyData} : rd o n ≠ .err c pl n' := by
  cases o with
  | v d => exact fun e => by cases e
  | f d => exact fun e => by cases e
  | s i =>
    simp only [rd]
    split <;> exact fun e => by cases e
/-- an own list frozen -/
theorem Rel.frozen {i : Nat} {l : Bool} (r : Rel K E n σ H) (hs : n[i]? = some (.own l false d)) :
    ∃ a, σ[i]? = some (some (.ref a)) ∧ Rel K E (n.set i (.val d)) σ H ∧ RV K H (OE E (n.set i (.val d)) σ) (.ref a) d ∧ Step n σ H (n.set i (.val d)) σ H := by
  obtain ⟨a, h1, h2, h3⟩ := r.own i l false d hs
  have hi : i < n.length := (List.getElem?_eq_some_iff.mp hs).1
  have get : ∀ j, (n.set i (.val d))[j]? = if i = j then some (.val d) else n[j]? := fun j => by
    rw [List.getElem?_set]
    split
    · rename_i e
      subst e
      first | rfl | rw [if_pos hi]
    · rfl
  have ex : ∀ b, Exc (n.set i (.val d)) σ b → Exc n σ b := fun b ⟨j, l', p', d', e1, e2⟩ => by
    rw [get] at e1
    split at e1
    · cases e1
    · exact ⟨j, l', p', d', e1, e2⟩
  have mu : ∀ b, Mu (n.set i (.val d)) σ b → Mu n σ b := fun b ⟨j, p', d', e1, e2⟩ => by
    rw [get] at e1
    split at e1
    · cases e1
    · exact ⟨j, p', d', e1, e2⟩
  have an : ∀ b, OE E (n.set i (.val d)) σ b → OE E n σ b := fun b z => z.imp id (ex b)
  have nex : ¬ OE E (n.set i (.val d)) σ a := fun z => by
    rcases z with z | ⟨j, l', p', d', e1, e2⟩
    · exact h3 z
    · rw [get] at e1
      split at e1
      · cases e1
      · rename_i hne
        exact hne (r.apart i j a _ _ _ _ _ _ hs e1 h1 e2)
  have hv : RV K H (OE E (n.set i (.val d)) σ) (.ref a) d := by
    obtain ⟨u, xs, ds, c, q, rs⟩ := h2
    exact .lst nex q c (rs.anti an)
  refine ⟨a, h1, ⟨by rw [List.length_set]; exact r.len, fun j d' e => ?_, fun j l' p' d' e => ?_, fun j k b l1 p1 d1 l2 p2 d2 e1 e2 => ?_, fun j c pl e => ?_, r.ext⟩, hv, ⟨fun _ _ e _ => e, fun _ e => e, fun b z => .inl (mu b z), fun b z => .inl (ex b z), fun j l' d' e => ?_, fun j p' d' e => ?_⟩⟩
  · rw [get] at e
    split at e
    · rename_i hij
      cases e
      rw [← hij]
      exact ⟨_, h1, hv⟩
    · obtain ⟨w, q1, q2⟩ := r.val j d' e
      exact ⟨w, q1, q2.anti an⟩
  · rw [get] at e
    split at e
    · cases e
    · obtain ⟨b, q1, q2, q3⟩ := r.own j l' p' d' e
      exact ⟨b, q1, q2.anti an, q3⟩
  · rw [get] at e1 e2
    split at e1
    · cases e1
    · split at e2
      · cases e2
      · exact r.apart j k b _ _ _ _ _ _ e1 e2
  · rw [get] at e
    split at e
    · cases e
    · exact r.noexc j c pl e
  · rw [get]
    split
    · rename_i hij
      subst hij
      rw [hs] at e
      cases e
    · exact ⟨l', d', e, rfl⟩
  · rw [get] at e
    split at e
    · cases e
    · exact ⟨d', e, rfl⟩
theorem keep_ok {d : PyData} (r : Rel K (orP E (tmp o v)) n σ H) (h : Od K H (OE (orP E (tmp o v)) n σ) σ o v) (ha : ∀ a, tmp o v a → ¬ E a) (e : keep o n = .ok d n') :
    Rel K E n' σ H ∧ RV K H (OE E n' σ) v d ∧ Step n σ H n' σ H ∧ ∀ a, Exc n' σ a → Exc n σ a := by
  have wk : ∀ a, E a → orP E (tmp o v) a := fun a z => .inl z
  cases o with
  | v d' =>
    cases e
    exact ⟨r.weak wk, RV.anti (fun a z => z.imp .inl id) h, .refl, fun _ z => z⟩
  | f d' =>
    cases e
    obtain ⟨a, rfl, u, xs, ds, c, q, rs⟩ := h
    refine ⟨r.weak wk, .lst (fun z => ?_) q c (rs.anti fun a z => z.imp .inl id), .refl, fun _ z => z⟩
    rcases z with z | ⟨i, l, p, d', h1, h2⟩
    · exact ha a rfl z
    · obtain ⟨b, e1, _, e3⟩ := r.own i l p d' h1
      rw [h2] at e1
      cases e1
      exact e3 (.inr rfl)
  | s i =>
    simp only [keep] at e
    have h' : σ[i]? = some (some v) := h
    split at e
    · rename_i l d' hs
      cases e
      have r' : Rel K E n σ H := r.weak wk
      obtain ⟨a, h1, h2, h3, h4⟩ := r'.frozen hs
      rw [h1] at h'
      cases h'
      exact ⟨h2, h3, h4, fun a z => by
        have hi : i < n.length := (List.getElem?_eq_some_iff.mp hs).1
        obtain ⟨j, l', p', d', e1, e2⟩ := z
        rw [List.getElem?_set] at e1
        split at e1
        · first | (split at e1 <;> cases e1) | cases e1
        · exact ⟨j, l', p', d', e1, e2⟩⟩
    · rename_i d' hs
      cases e
      have r' : Rel K E n σ H := r.weak wk
      obtain ⟨w, h1, h2⟩ := r'.val i d hs
      rw [h1] at h'
      cases h'
      exact ⟨r', h2, .refl, fun _ z => z⟩
    · cases e
theorem keep_noerr {c : Nat} {pl : PyData} : keep o n ≠ .err c pl n' := by
  cases o with
  | v d => exact fun e => by cases e
  | f d => exact fun e => by cases e
  | s i =>
    simp only [keep]
    split <;> exact fun e => by cases e
end

/-! ### several operands -/
def tmps : List Opd → List V → Addr → Prop
  | o :: os, v :: vs => fun a => tmp o v a ∨ tmps os vs a
  | _, _ => fun _ => False
inductive Ods (K : PySem.W.Frag) (H : Hp) (O : Addr → Prop) (σ : L2.St) : List Opd → List V → Prop
  | nil : Ods K H O σ [] []
  | cons {o : Opd} {os : List Opd} {v : V} {vs : List V} : Od K H O σ o v → Ods K H O σ os vs → Ods K H O σ (o :: os) (v :: vs)
/-- fresh lists stand apart -/
def Ap : List Opd → List V → Prop
  | o :: os, v :: vs => (∀ a, tmp o v a → ¬ tmps os vs a) ∧ Ap os vs
  | _, _ => True
inductive RTs (K : PySem.W.Frag) (H : Hp) (O : Addr → Prop) : List V → List PyData → Prop
  | nil : RTs K H O [] []
  | cons {v : V} {vs : List V} {d : PyData} {ds : List PyData} : RT K H O v d → RTs K H O vs ds → RTs K H O (v :: vs) (d :: ds)
section
variable {K : PySem.W.Frag} {H H' H1 H2 : Hp} {O O' : Addr → Prop} {σ σ' : L2.St} {n n' n1 n2 : En} {E E' E1 : Addr → Prop} {v : V} {o : Opd} {d : PyData} {os : List Opd} {vs : List V} {ds : List PyData}
theorem bnd_ok {α β : Type} {m : M α} {f : α → M β} {b : β} (e : bnd m f n = .ok b n') : ∃ a n1, m n = .ok a n1 ∧ f a n1 = .ok b n' := by
  unfold bnd at e
  split at e
  · exact ⟨_, _, ‹_›, e⟩
  · cases e
  · cases e
theorem bnd_err {α β : Type} {m : M α} {f : α → M β} {c : Nat} {pl : PyData} (e : bnd m f n = .err c pl n') : m n = .err c pl n' ∨ ∃ a n1, m n = .ok a n1 ∧ f a n1 = .err c pl n' := by
  unfold bnd at e
  split at e
  · exact .inr ⟨_, _, ‹_›, e⟩
  · cases e
    exact .inl ‹_›
  · cases e
theorem rds_noerr {c : Nat} {pl : PyData} : ∀ {os : List Opd} {n : En}, rds os n ≠ .err c pl n'
  | [], _, e => by cases e
  | o :: os, n, e => by
    rcases bnd_err e with e | ⟨d, n1, _, e⟩
    · exact rd_noerr e
    · rcases bnd_err e with e | ⟨ds, n2, _, e⟩
      · exact rds_noerr e
      · cases e
theorem keeps_noerr {c : Nat} {pl : PyData} : ∀ {os : List Opd} {n : En}, keeps os n ≠ .err c pl n'
  | [], _, e => by cases e
  | o :: os, n, e => by
    rcases bnd_err e with e | ⟨d, n1, _, e⟩
    · exact keep_noerr e
    · rcases bnd_err e with e | ⟨ds, n2, _, e⟩
      · exact keeps_noerr e
      · cases e
theorem rds_ok (r : Rel K E n σ H) : ∀ {os : List Opd} {vs : List V} {ds : List PyData} {n' : En}, Ods K H (OE E n σ) σ os vs → rds os n = .ok ds n' → n' = n ∧ RTs K H (OE E n σ) vs ds
  | _, _, _, _, .nil, e => by
    cases e
    exact ⟨rfl, .nil⟩
  | _, _, _, _, .cons h q, e => by
    obtain ⟨d, n1, e1, e⟩ := bnd_ok e
    obtain ⟨z1, h1⟩ := rd_ok r h e1
    rw [z1] at e
    obtain ⟨ds, n2, e2, e⟩ := bnd_ok e
    obtain ⟨z2, h2⟩ := rds_ok r q e2
    cases e
    exact ⟨z2, .cons h1 h2⟩
theorem Ods.anti (h : ∀ a, O' a → O a) : ∀ {os : List Opd} {vs : List V}, Ods K H O σ os vs → Ods K H O' σ os vs
  | _, _, .nil => .nil
  | _, _, .cons q r => .cons (q.anti h) (r.anti h)
theorem RTs.anti (h : ∀ a, O' a → O a) : ∀ {vs : List V} {ds : List PyData}, RTs K H O vs ds → RTs K H O' vs ds
  | _, _, .nil => .nil
  | _, _, .cons q r => .cons (q.anti h) (r.anti h)
theorem Ods.length : ∀ {os : List Opd} {vs : List V}, Ods K H O σ os vs → os.length = vs.length
  | _, _, .nil => rfl
  | _, _, .cons _ r => by rw [List.length_cons, List.length_cons, r.length]
theorem Ods.carry (r : Rel K E n σ H) (st : Step n σ H n1 σ H1) (hE : ∀ a, E1 a → E a ∨ H a = none) : ∀ {os : List Opd} {vs : List V}, Ods K H (OE E n σ) σ os vs → (∀ a, tmps os vs a → E a) → Ods K H1 (OE E1 n1 σ) σ os vs
  | _, _, .nil, _ => .nil
  | _, _, .cons h q, ht => .cons (h.carry r st hE fun a z => ht a (.inl z)) (Ods.carry r st hE q fun a z => ht a (.inr z))
theorem keeps_ok : ∀ {os : List Opd} {vs : List V} {ds : List PyData} {n : En}, Rel K (orP E (tmps os vs)) n σ H → Ods K H (OE (orP E (tmps os vs)) n σ) σ os vs → Ap os vs → (∀ a, tmps os vs a → ¬ E a) → keeps os n = .ok ds n' →
    Rel K E n' σ H ∧ RVs K H (OE E n' σ) vs ds ∧ Step n σ H n' σ H ∧ ∀ a, Exc n' σ a → Exc n σ a
  | _, _, _, n, r, .nil, _, _, e => by
    cases e
    exact ⟨r.weak fun a z => .inl z, .nil, .refl, fun _ z => z⟩
  | o :: os, v :: vs, _, n, r, .cons h q, ap, ha, e => by
    obtain ⟨d, n1, e1, e⟩ := bnd_ok e
    obtain ⟨ds, n2, e2, e⟩ := bnd_ok e
    cases e
    have r0 : Rel K (orP (orP E (tmps os vs)) (tmp o v)) n σ H := r.weak fun a z => by
      rcases z with (z | z) | z
      · exact .inl z
      · exact .inr (.inr z)
      · exact .inr (.inl z)
    have an : ∀ a, OE (orP (orP E (tmps os vs)) (tmp o v)) n σ a → OE (orP E (tmps (o :: os) (v :: vs))) n σ a := fun a z => by
      rcases z with ((z | z) | z) | z
      · exact .inl (.inl z)
      · exact .inl (.inr (.inr z))
      · exact .inl (.inr (.inl z))
      · exact .inr z
    obtain ⟨r1, h1, s1, x1⟩ := keep_ok r0 (h.anti an) (fun a z => fun y => y.elim (ha a (.inl z)) (ap.1 a z)) e1
    have q1 : Ods K H (OE (orP E (tmps os vs)) n1 σ) σ os vs := q.anti fun a z => by
      rcases z with z | z
      · exact .inl (z.imp id .inr)
      · exact .inr (x1 a z)
    obtain ⟨r2, h2, s2, x2⟩ := keeps_ok r1 q1 ap.2 (fun a z => ha a (.inr z)) e2
    refine ⟨r2, .cons (h1.anti fun a z => ?_) h2, s1.trans s2, fun a z => x1 a (x2 a z)⟩
    rcases z with z | z
    · exact .inl (.inl z)
    · exact .inr (x2 a z)
end

/-! ### readings -/
/-- what is wished of an error -/
def WXR (G : GX) (W : WX) (E : Addr → Prop) (n : En) (σ : L2.St) (H : Hp) (c : Nat) (pl : PyData) (n' : En) (σ' : L2.St) : Prop :=
  ∀ (H' : Hp) (dx : Addr) (fs : List (Str × V)) (vp : V), Rel G.K E n' σ' H' → Step n σ H n' σ' H' → H' dx = some (.xd fs) → fs.lookup ("place" : Str) = some vp → RV G.K H' (OE E n' σ') vp pl → fs.lookup ("name" : Str) = some (.str (G.xn c)) →
    W (.ref (G.xc c)) (some dx) σ' H'
def Post (G : GX) (W : WX) (E : Addr → Prop) (n : En) (σ : L2.St) (H : Hp) {α : Type} (P : α → En → Prop) : Res α → Prop
  | .ok a n' => P a n'
  | .err c pl n' => WXR G W E n σ H c pl n' σ
  | .bad => False
structure ER (K : PySem.W.Frag) (E : Addr → Prop) (n : En) (σ : L2.St) (H : Hp) (o : Opd) (n' : En) (v : V) (H' : Hp) : Prop where
  rel : Rel K (orP E (tmp o v)) n' σ H'
  op : Od K H' (OE (orP E (tmp o v)) n' σ) σ o v
  step : Step n σ H n' σ H'
  new : ∀ a, tmp o v a → H a = none
structure AR (K : PySem.W.Frag) (E : Addr → Prop) (n : En) (σ : L2.St) (H : Hp) (os : List Opd) (n' : En) (vs : List V) (H' : Hp) : Prop where
  rel : Rel K (orP E (tmps os vs)) n' σ H'
  ops : Ods K H' (OE (orP E (tmps os vs)) n' σ) σ os vs
  step : Step n σ H n' σ H'
  new : ∀ a, tmps os vs a → H a = none
  ap : Ap os vs
def tE (G : GX) (W : WX) (m : M Opd) : TE := fun σ H Q => ∃ E n, Rel G.K E n σ H ∧ Post G W E n σ H (fun o n' => ∀ v H', ER G.K E n σ H o n' v H' → Q v H') (m n)
def tA (G : GX) (W : WX) (m : M (List Opd)) : TA := fun σ H Q => ∃ E n, Rel G.K E n σ H ∧ Post G W E n σ H (fun os n' => ∀ vs H', AR G.K E n σ H os n' vs H' → Q vs H') (m n)
def tT (G : GX) (W : WX) (m : M Bool) : TT := fun σ H Q => ∃ E n, Rel G.K E n σ H ∧ Post G W E n σ H (fun b n' => ∀ H', Rel G.K E n' σ H' → Step n σ H n' σ H' → Q b H') (m n)
section
variable {G : GX} {W : WX} {E E1 : Addr → Prop} {n n1 : En} {σ : L2.St} {H H1 : Hp} {α β : Type}
theorem post_bnd {P : β → En → Prop} {m : M α} {f : α → M β} : Post G W E n σ H P (bnd m f n1) ↔ Post G W E n σ H (fun a n2 => Post G W E n σ H P (f a n2)) (m n1) := by
  unfold bnd
  cases m n1 <;> rfl
theorem Post.imp {P P' : α → En → Prop} {r : Res α} (h : Post G W E n σ H P r) (hp : ∀ a n', r = .ok a n' → P a n' → P' a n') (hx : ∀ c pl n', WXR G W E n σ H c pl n' σ → WXR G W E1 n1 σ H1 c pl n' σ) : Post G W E1 n1 σ H1 P' r := by
  cases r with
  | ok a n' => exact hp a n' rfl h
  | err c pl n' => exact hx c pl n' h
  | bad => exact h
theorem Post.mono {P P' : α → En → Prop} {r : Res α} (h : Post G W E n σ H P r) (hp : ∀ a n', r = .ok a n' → P a n' → P' a n') : Post G W E n σ H P' r := h.imp hp fun _ _ _ z => z
theorem WXR.later {c : Nat} {pl : PyData} {n' : En} {σ' : L2.St} (h : WXR G W E n σ H c pl n' σ') (s : Step n σ H n1 σ H1) (hE : ∀ a, E a → E1 a) : WXR G W E1 n1 σ H1 c pl n' σ' := fun H' dx fs vp r st h1 h2 h3 h4 =>
  h H' dx fs vp (r.weak hE) (s.trans st) h1 h2 (h3.anti fun a z => z.imp (hE a) id) h4
/-- what cannot raise, nor change the state -/
theorem Post.pure {P : α → En → Prop} {m : M α} (h : Post G W E n σ H P (m n1)) (hn : ∀ c pl n', m n1 ≠ .err c pl n') : ∃ a n', m n1 = .ok a n' ∧ P a n' := by
  cases e : m n1 with
  | ok a n' => rw [e] at h; exact ⟨a, n', rfl, h⟩
  | err c pl n' => exact absurd e (hn c pl n')
  | bad => rw [e] at h; exact h.elim
end
end DM
set_option Elab.async false
set_option linter.all false
set_option maxRecDepth 100000
/-! DMT: tuples made at run, known to have no dict of their own. -/
namespace DM
open PySem PySem.Spec PyProof.Rows L2
/-- for a new tuple of xs -/
def NewT (H : Hp) (xs : List V) (Q : VK) : Prop := ∀ (p : Addr) (ob : Obj), H p = none → ob.dict = none → Q (.ref p) (upd H p (.frz ob (.tup xs)))
section
variable {X : Cx} {pins : List (Addr × Obj)} {σ : L2.St} {H : Hp} {s : Shared} {xs : List V} {us : List Value} {Q : VK}
theorem laidT (J : Inv X pins σ H s) (rv : Vals xs us) (le : xs.length ≤ sizeLine) (w : NewT H xs Q) :
    EP X pins σ Q (.ref s.heap.objs.size) { s with heap := s.heap.push { cls := .type "tuple", data := .seq us.toArray } } := by
  have nw := J.hok.fresh (Nat.le_refl s.heap.objs.size)
  have good : ObjOk X.prog X.w (upd H s.heap.objs.size (.frz { cls := .type "tuple", data := .seq us.toArray } (.tup xs))) (s.heap.push { cls := .type "tuple", data := .seq us.toArray }) s.heap.objs.size (.frz { cls := .type "tuple", data := .seq us.toArray } (.tup xs)) :=
    ⟨Heap.get?_push_size _ rfl, le, us, rv, IsTup.new _ _⟩
  exact ⟨.ref _, _, J.laid (t' := s.toks) (fun _ _ z => Heap.get?_push_of_some _ z) (Nat.le_refl _) good, rfl, w _ _ nw rfl⟩
/-- t + u -/
theorem op_addT : OpR X (binaryOp .Add) (fun x y H Q => ∃ a b xs ys, x = .ref a ∧ y = .ref b ∧ SqT X.K H a xs ∧ SqT X.K H b ys ∧ xs.length + ys.length ≤ sizeLine ∧ (xs = [] → Q (.ref b) H) ∧ (ys = [] → Q (.ref a) H) ∧ NewT H (xs ++ ys) Q) := by
  intro pins s σ H x y v u Q J rx ry w
  obtain ⟨a, b, xs, ys, rfl, rfl, ta, tb, le, w1, w2, w3⟩ := w
  cases rx; cases ry
  obtain ⟨us, ru, pa, _⟩ := J.tuple ta
  obtain ⟨ws, rw', pb, _⟩ := J.tuple tb
  by_cases n : xs = []
  · have n2 : us = [] := ru.nil_iff.mpr n
    subst n2
    exact cat_tup0 pa pb ⟨.ref b, H, J, rfl, w1 n⟩
  · have both := ru.append rw'
    exact HT.cat_tup pa pb (fun z => n (ru.nil_iff.mp z)) (fun z => ⟨.ref a, H, J, rfl, w2 (rw'.nil_iff.mp z)⟩) (fun _ => laidT J both (by rw [List.length_append]; exact le) w3)
      (by rw [← ru.length, ← rw'.length]; exact le)
/-- t[lo:hi] -/
theorem sl_cutT : SlR X (fun x lo hi H Q => ∃ a xs, x = .ref a ∧ SqT X.K H a xs ∧ (HT.sIx xs.length 0 lo = 0 ∧ HT.sIx xs.length xs.length hi = xs.length → Q (.ref a) H) ∧ NewT H (cutV xs lo hi) Q) := by
  intro pins s σ H x v vl vu lo hi sl Q J rx hs pl pu w
  obtain ⟨a, xs, rfl, ta, w1, w2⟩ := w
  cases rx
  obtain ⟨us, ru, pt, le⟩ := J.tuple ta
  have same : us.toArray.size = xs.length := by rw [List.size_toArray, ru.length]
  refine ⟨"tuple", _, PyProof.Rows.slot_tuple_getitem.lookup, pt.typeIs, ?_⟩
  by_cases all : HT.sIx xs.length 0 lo = 0 ∧ HT.sIx xs.length xs.length hi = xs.length
  · exact getItem_tuple_whole pt hs pl pu (by rw [same]; exact all) ⟨.ref a, H, J, rfl, w1 all⟩
  · refine HT.getItem_tuple_cut pt hs pl pu (by rw [same]; exact all) ?_ (by rw [same]; exact le)
    rw [same]
    exact laidT J ((ru.drop (HT.sIx xs.length 0 lo)).take (HT.sIx xs.length xs.length hi - HT.sIx xs.length 0 lo)) (Nat.le_trans (cutV_length xs lo hi) le) w2
/-- tuple(xs), tuple(t) -/
theorem call_tupT : CallR X (.type "tuple") (fun xs H Q => ∃ p ys, xs = [.ref p] ∧ ((SqL X.K H p ys ∧ NewT H ys Q) ∨ (SqT X.K H p ys ∧ Q (.ref p) H))) := by
  intro pins s σ H xs us Q J rs ⟨p, ys, e, w⟩
  subst e
  obtain ⟨u, rfl, ru⟩ := vals1 rs
  cases ru
  rcases w with ⟨tl, w⟩ | ⟨tt, w⟩
  · obtain ⟨ws, rw', pl, le⟩ := J.list tl
    refine call_tuple_list pl.isList (fun h2 kp => ?_) (by simp only [List.size_toArray, ← rw'.length]; exact le)
    have J2 : Inv X pins σ H { s with heap := h2 } := J.kept (t' := s.toks) kp
    exact laidT J2 rw' le w
  · obtain ⟨ws, _, pt, _⟩ := J.tuple tt
    exact call_tuple_same pt ⟨.ref p, H, J, rfl, w⟩
/-- a tuple written -/
def tTupT (t : TA) : TE := fun σ H Q => t σ H fun xs H1 => xs.length ≤ sizeLine ∧ NewT H1 xs Q
theorem pe_tupT {es : List Expr} {t : TA} {k : Nat} {pos : Pos} (h : PA X es t) : PE X (.Tuple es k pos) (tTupT t) :=
  ⟨fun pins s σ H Q J w => wpAny_Tuple_spliced (thn (h.run pos pins s σ H _ J w) fun _ _ ⟨_, _, J1, ru, le, w1⟩ => ⟨by rw [← ru.length]; exact le, laidT J1 ru le w1⟩)⟩
/-- t * 1: the same -/
theorem tuple_mulW1 (l : Addr) (items : Array Value) (n : Nat) (dd : Option Addr) (sl : Array (Option Value)) (u : Tok) :
    Meets (Builtin.«tuple.__mul__» ⟨[.ref l, .int 1 u], []⟩) (fun _ R s => s.heap.get? l = some { cls := .type "tuple", dict := dd, data := .seq items n, slots := sl } ∧ R (.ok (.ret (Value.ref l))) s) :=
  .of_wp fun prog w A R s h => by
    obtain ⟨hp, g, d, tk, os⟩ := s
    obtain ⟨hl, h⟩ := h
    have f1 := AutoSeq1.idx_int
    have c1 : (items.isEmpty || (1 : Int) == 1) = true := by rw [show ((1 : Int) == 1) = true from rfl, Bool.or_true]
    wp_walk using wpAny_loadPart' hl
    repeat (first
      | (refine wpAny_ite_true (decide_eq_true c1) ?_; wp_walk using wpAny_loadPart' hl)
      | (refine wpAny_ite_true c1 ?_; wp_walk using wpAny_loadPart' hl))
    all_goals exact ⟨_, rfl, h⟩
/-- t * 0 -/
theorem tuple_mulW0 (l : Addr) (items : Array Value) (n : Nat) (dd : Option Addr) (sl : Array (Option Value)) (u : Tok) (c : items.isEmpty = false) :
    Meets (Builtin.«tuple.__mul__» ⟨[.ref l, .int 0 u], []⟩) (fun _ R s => s.heap.get? l = some { cls := .type "tuple", dict := dd, data := .seq items n, slots := sl } ∧ R (.ok (.ret (Value.ref s.heap.objs.size))) { s with heap := s.heap.push { cls := Value.type "tuple", data := Data.seq #[] }, toks := s.toks }) :=
  .of_wp fun prog w A R s h => by
    obtain ⟨hp, g, d, tk, os⟩ := s
    obtain ⟨hl, h⟩ := h
    have f1 := AutoSeq1.idx_int
    have c1 : (items.isEmpty || (0 : Int) == 1) = false := by rw [c]; rfl
    have c2 : (decide ((0 : Int) ≤ 0) || items.isEmpty) = true := by rw [c]; rfl
    wp_walk using wpAny_loadPart' hl
    repeat (first
      | (refine wpAny_ite_false (decide_eq_false (by rw [c1]; exact Bool.false_ne_true)) ?_; wp_walk using wpAny_loadPart' hl)
      | (refine wpAny_ite_true (decide_eq_true c2) ?_; wp_walk using wpAny_loadPart' hl))
    all_goals exact ⟨_, rfl, h⟩
/-- t * k -/
theorem op_mulT : OpR X (binaryOp .Mult) (fun x y H Q => ∃ l k xs, x = .ref l ∧ y = .int k ∧ SqT X.K H l xs ∧ xs ≠ [] ∧ 0 ≤ k ∧ k ≤ 1000 ∧ xs.length ≤ 1000 ∧ (k = 1 → Q (.ref l) H) ∧ NewT H (List.replicate k.toNat xs).flatten Q) := by
  intro pins s σ H x y v u Q J rx ry w
  obtain ⟨l, k, xs, rfl, rfl, tl, ne, k0, k1, x1, w1, w⟩ := w
  cases rx
  obtain ⟨t, rfl⟩ := ry
  obtain ⟨us, ru, ⟨⟨cl, dd, da, sl⟩, ho, ec, m, ed⟩, le⟩ := J.tuple tl
  simp only at ec ed
  subst ec ed
  have sz : us.length = xs.length := ru.length.symm
  have sz2 : us.toArray.size = xs.length := by rw [List.size_toArray, sz]
  have pos : 0 < xs.length := List.length_pos_iff.mpr ne
  have full : us.toArray.isEmpty = false := by
    cases us with
    | nil => rw [← sz] at pos; exact absurd pos (by decide)
    | cons _ _ => rfl
  refine wpAny_binaryOp_repeat_ref (T := "tuple") (U := "int") (by decide) ⟨_, ho, rfl⟩ (fun _ => typeIs_int _ k t) noFill_tuple_mul F.fills_int_mul F.slot_int_rmul repeat_tuple F.slot_int_index.lookup
    (call_meets F.slot_int_rmul (typeIs_int s k t) F.entry_int_rmul (F.args_int_rmul_2 _ _) (int_rmul_tuple k t l us.toArray m dd sl) ⟨ho, rfl, ⟨_, ho, rfl⟩, ?_⟩)
  by_cases e1 : k = 1
  · subst e1
    exact call_meets F.slot_tuple_mul ⟨_, ho, rfl⟩ F.entry_tuple_mul (F.args_tuple_mul_2 _ _) (tuple_mulW1 l us.toArray m dd sl t) ⟨ho, .ref l, _, J, rfl, w1 rfl⟩
  by_cases e0 : k = 0
  · subst e0
    exact call_meets F.slot_tuple_mul ⟨_, ho, rfl⟩ F.entry_tuple_mul (F.args_tuple_mul_2 _ _) (tuple_mulW0 l us.toArray m dd sl t full) ⟨ho, laidT (xs := []) J .nil (Nat.zero_le _) w⟩
  have most : ((us.toArray.size : Nat) : Int) * k ≤ 1000000 := by
    rw [sz2]
    have : ((xs.length : Nat) : Int) * k ≤ 1000 * k := Int.mul_le_mul_of_nonneg_right (by omega) (by omega)
    omega
  have fits : k.toNat * xs.length ≤ 1000000 := Nat.le_trans (Nat.mul_le_mul (show k.toNat ≤ 1000 by omega) x1) (by decide)
  have line : (List.replicate k.toNat us).flatten.length ≤ sizeLine := by
    rw [PyProof.Rows.lm_len_rep_flat, sz, sizeLine_eq]
    omega
  have g0 : (decide (k < -(2 ^ 63)) || decide (k ≥ 2 ^ 63)) = false := by
    rw [Bool.or_eq_false_iff]
    exact ⟨decide_eq_false (by omega), decide_eq_false (by omega)⟩
  have k2 : 2 ≤ k := by omega
  have g1 : (us.toArray.isEmpty || k == 1) = false := by
    rw [Bool.or_eq_false_iff]
    exact ⟨full, beq_eq_false_iff_ne.mpr (by omega)⟩
  have g2 : (decide (k ≤ 0) || us.toArray.isEmpty) = false := by
    rw [Bool.or_eq_false_iff]
    exact ⟨decide_eq_false (by omega), full⟩
  have g4 : Builtin.Tuple.tupleTooMany (((us.toArray.size : Nat) : Int) * k) = false := by
    unfold Builtin.Tuple.tupleTooMany
    rw [sizeLine_eq]
    exact decide_eq_false (by omega)
  refine call_meets F.slot_tuple_mul ⟨_, ho, rfl⟩ F.entry_tuple_mul (F.args_tuple_mul_2 _ _)
    (tuple_mulW l us.toArray m dd sl k t g0 g1 g2 (by omega) g4 (by rw [size_rep, List.size_toArray]; exact line)) ⟨ho, ?_⟩
  rw [size_rep]
  refine laidT J (ru.rep k.toNat) ?_ w
  rw [PyProof.Rows.lm_len_rep_flat, sizeLine_eq]
  omega
end
end DM
set_option Elab.async false
set_option linter.all false
set_option maxRecDepth 100000
/-! DM4: operations by values. -/
namespace DM
open PySem PySem.Spec PyProof.Rows L2

/-- what an operation on values leaves: all stands, the result o lies at z -/
structure PR (K : PySem.W.Frag) (O : Addr → Prop) (H : Hp) (o : Opd) (z : V) (H' : Hp) : Prop where
  same : Same H H'
  od : Od K H' (orP O (tmp o z)) [] o z
  new : ∀ a, tmp o z a → H a = none
def rP1 (K : PySem.W.Frag) (f : PyData → Option Opd) : V → Hp → VK → Prop := fun x H Q => ∃ O d o, LO H O ∧ RT K H O x d ∧ f d = some o ∧ ∀ z H', PR K O H o z H' → Q z H'
def rP2 (K : PySem.W.Frag) (f : PyData → PyData → Option Opd) : R2 := fun x y H Q => ∃ O d e o, LO H O ∧ RT K H O x d ∧ RT K H O y e ∧ f d e = some o ∧ ∀ z H', PR K O H o z H' → Q z H'
def rPn (K : PySem.W.Frag) (f : List PyData → Option Opd) : List V → Hp → VK → Prop := fun xs H Q => ∃ O ds o, LO H O ∧ RTs K H O xs ds ∧ f ds = some o ∧ ∀ z H', PR K O H o z H' → Q z H'
section
variable {K : PySem.W.Frag} {O : Addr → Prop} {H : Hp} {z : V} {d : PyData} {ds : List PyData} {zs : List V}
theorem PR.val (h : RV K H O z d) : PR K O H (.v d) z H := ⟨Same.refl H, RV.anti (fun a q => q.elim id False.elim) h, fun _ q => q.elim⟩
theorem same_upd {p : Addr} {o : HO} (hp : H p = none) : Same H (upd H p o) := fun b u e => by rw [upd_ne (ne_of_none e hp)]; exact e
theorem PR.tup {p : Addr} {ob : Obj} (l : LO H O) (h : RVs K H O zs ds) (hp : H p = none) (hd : ob.dict = none) : PR K O H (.v (.tuple ds)) (.ref p) (upd H p (.frz ob (.tup zs))) :=
  ⟨same_upd hp, .tup (.inl ⟨ob, upd_same, hd⟩) (h.pres l (Same.pres (same_upd hp) fun a q => q.elim .inl False.elim)), fun _ q => q.elim⟩
theorem PR.newT {Q : VK} (l : LO H O) (h : RVs K H O zs ds) (q : ∀ z H', PR K O H (.v (.tuple ds)) z H' → Q z H') : NewT H zs Q := fun _ _ hp hd => q _ _ (PR.tup l h hp hd)
theorem PR.lst {p : Addr} (l : LO H O) (h : RVs K H O zs ds) (hp : H p = none) : PR K O H (.f (.list ds)) (.ref p) (upd H p (.lst zs)) :=
  ⟨same_upd hp, ⟨p, rfl, _, zs, ds, .lst, upd_same, h.pres l (Same.pres (same_upd hp) fun a q => by
    rcases q with q | q
    · exact .inl q
    · cases q
      exact .inr hp)⟩, fun _ q => by
    cases q
    exact hp⟩
theorem RT.refd {k : List (PyData × PyData)} (h : RT K H O z (.dict k)) : ∃ a, z = .ref a := by
  rcases h with h | ⟨a, rfl, _⟩
  · cases h with
    | lst _ _ _ _ => exact ⟨_, rfl⟩
    | frz _ _ _ => exact ⟨_, rfl⟩
    | frzK _ _ => exact ⟨_, rfl⟩
  · exact ⟨a, rfl⟩
theorem RT.rv_nl (h : RT K H O z d) (n : ∀ ds, d ≠ .list ds) (n2 : ∀ ds, d ≠ .dict ds) : RV K H O z d := by
  rcases h with h | ⟨a, rfl, u, xs, ds, c, _⟩
  · exact h
  · cases c with
    | lst => exact absurd rfl (n _)
    | dct _ => exact absurd rfl (n2 _)
end

section
variable {X : Cx}
/-! ### a op b -/
theorem mulOk_ok {i j : Int} (h : mulOk i j = true) : CMul i j := by
  unfold mulOk at h
  simp only [Bool.or_eq_true, Bool.and_eq_true, decide_eq_true_eq] at h
  exact h
theorem op_bin (op : Operator) : OpR X (binaryOp op) (rP2 X.K (binD op)) := by
  intro pins s σ H x y v u Q I rx ry ⟨O, d, e, o, lo, hd, he, ef, hq⟩
  unfold binD at ef
  split at ef
  · rename_i i j
    cases hd.int
    cases he.int
    cases ek : binI op i j with
    | none => rw [ek] at ef; cases ef
    | some k =>
      rw [ek] at ef
      cases ef
      have q : Q (.int k) H := hq _ _ (PR.val (.int k))
      cases op with
      | Add => cases ek; exact op_add pins s σ H _ _ v u Q I rx ry ⟨i, j, rfl, rfl, q⟩
      | Sub => cases ek; exact op_sub pins s σ H _ _ v u Q I rx ry ⟨i, j, rfl, rfl, q⟩
      | Mult =>
        simp only [binI] at ek
        split at ek
        · rename_i hm
          cases ek
          exact op_mul pins s σ H _ _ v u Q I rx ry ⟨i, j, rfl, rfl, mulOk_ok hm, q⟩
        · cases ek
      | FloorDiv =>
        simp only [binI] at ek
        split at ek
        · rename_i hm
          cases ek
          exact op_fdivN pins s σ H _ _ v u Q I rx ry ⟨i, j, rfl, rfl, hm, q⟩
        · cases ek
      | Mod =>
        simp only [binI] at ek
        split at ek
        · rename_i hm
          cases ek
          exact op_modN pins s σ H _ _ v u Q I rx ry ⟨i, j, rfl, rfl, hm, q⟩
        · cases ek
      | Pow =>
        simp only [binI] at ek
        split at ek
        · rename_i hm
          cases ek
          exact op_pow pins s σ H _ _ v u Q I rx ry ⟨i, j, rfl, rfl, hm, q⟩
        · cases ek
      | LShift =>
        simp only [binI] at ek
        split at ek
        · rename_i hm
          cases ek
          exact op_shl pins s σ H _ _ v u Q I rx ry ⟨i, j, rfl, rfl, hm, q⟩
        · cases ek
      | RShift =>
        simp only [binI] at ek
        split at ek
        · rename_i hm
          cases ek
          exact op_shr pins s σ H _ _ v u Q I rx ry ⟨i, j, rfl, rfl, hm, q⟩
        · cases ek
      | BitAnd => cases ek; exact op_and pins s σ H _ _ v u Q I rx ry ⟨i, j, rfl, rfl, q⟩
      | BitOr => cases ek; exact op_or pins s σ H _ _ v u Q I rx ry ⟨i, j, rfl, rfl, q⟩
      | BitXor => cases ek; exact op_xor pins s σ H _ _ v u Q I rx ry ⟨i, j, rfl, rfl, q⟩
      | _ => cases ek
  · rename_i a b
    cases hd.str
    cases he.str
    split at ef
    · split at ef
      · rename_i hl
        cases ef
        exact op_add_str pins s σ H _ _ v u Q I rx ry ⟨a, b, rfl, rfl, hl, hq _ _ (PR.val (.str _))⟩
      · cases ef
    · cases ef
  · rename_i xs ys
    split at ef
    · split at ef
      · rename_i hl
        cases ef
        obtain ⟨a, zs, rfl, h1, h2⟩ := hd.tup
        obtain ⟨b, ws, rfl, h3, h4⟩ := he.tup
        refine op_addT pins s σ H _ _ v u Q I rx ry ⟨a, b, zs, ws, rfl, rfl, h1.sqT, h3.sqT, by rw [h2.length, h4.length]; exact hl, fun e => ?_, fun e => ?_, PR.newT lo (h2.append h4) hq⟩
        · subst e
          cases h2
          exact hq _ _ (PR.val (.tup h3 h4))
        · subst e
          cases h4
          rw [List.append_nil] at hq
          exact hq _ _ (PR.val (.tup h1 h2))
      · cases ef
    · cases ef
  · rename_i xs ys
    split at ef
    · split at ef
      · rename_i hl
        cases ef
        obtain ⟨a, zs, rfl, h1, h2⟩ := hd.list
        obtain ⟨b, ws, rfl, h3, h4⟩ := he.list
        exact op_cat pins s σ H _ _ v u Q I rx ry ⟨a, b, zs, ws, rfl, rfl, h1, h3, by rw [h2.length, h4.length]; exact hl, fun p hp => hq _ _ (PR.lst lo (h2.append h4) hp)⟩
      · cases ef
    · cases ef
  · rename_i xs k
    split at ef
    · split at ef
      · rename_i hl
        cases ef
        obtain ⟨a, zs, rfl, h1, h2⟩ := hd.list
        cases he.int
        exact op_rep pins s σ H _ _ v u Q I rx ry ⟨a, k, zs, rfl, rfl, h1, hl.1, hl.2.1, by rw [h2.length]; exact hl.2.2, fun p hp => hq _ _ (PR.lst lo (h2.rep _) hp)⟩
      · cases ef
    · cases ef
  · rename_i xs k
    split at ef
    · split at ef
      · rename_i hl
        cases ef
        obtain ⟨a, zs, rfl, h1, h2⟩ := hd.tup
        cases he.int
        refine op_mulT pins s σ H _ _ v u Q I rx ry ⟨a, k, zs, rfl, rfl, h1.sqT, ?_, hl.2.1, hl.2.2.1, by rw [h2.length]; exact hl.2.2.2, ?_, PR.newT lo (h2.rep _) hq⟩
        · intro e
          subst e
          cases h2
          exact hl.1 rfl
        · intro e
          subst e
          have e2 : (List.replicate (1 : Int).toNat xs).flatten = xs := by
            show (List.replicate 1 xs).flatten = xs
            simp
          rw [e2] at hq
          exact hq _ _ (PR.val (.tup h1 h2))
      · cases ef
    · cases ef
  · cases ef

/-! ### comparisons -/
theorem Inv.reads {pins : List (Addr × Obj)} {s : Shared} {σ : L2.St} {H : Hp} {O : Addr → Prop} {x : V} {v : Value} {d : PyData} (I : Inv X pins σ H s) (p : d.plain = true) (h : RT X.K H O x d) (r : RelV x v) : ∃ as, Reads s.heap v d as :=
  Dp.reads I d x v (h.dp p) r
theorem dok_plain {d : PyData} (h : dok d = true) : d.plain = true := (Bool.and_eq_true_iff.mp h).1
theorem dok_depth {d : PyData} (h : dok d = true) : d.depth ≤ 60 := of_decide_eq_true (Bool.and_eq_true_iff.mp h).2
theorem notNone_ne {d : PyData} (h : notNone d = true) : d ≠ .none := fun e => by subst e; cases h
theorem op_cmp (hu : X.A.units + 64 < cLine) (op : CmpOp) : OpR X (compareOp op) (rP2 X.K fun d e => (cmpD op d e).map fun b => .v (.bool b)) := by
  intro pins s σ H x y v u Q I rx ry ⟨O, d, e, o, lo, hd, he, ef, hq⟩
  dsimp only at ef
  cases ec : cmpD op d e with
  | none => rw [ec] at ef; cases ef
  | some b =>
  rw [ec] at ef
  cases ef
  have q : Q (.bl b) H := hq _ _ (PR.val (.bl b))
  have fin : EP X pins σ Q (.bool b) s := ⟨.bl b, H, I, rfl, q⟩
  cases op with
  | Eq =>
    simp only [cmpD] at ec
    split at ec
    · rename_i hk
      cases ec
      obtain ⟨k1, k2⟩ := Bool.and_eq_true_iff.mp hk
      obtain ⟨as, r1⟩ := Inv.reads I (dok_plain k1) hd rx
      obtain ⟨bs, r2⟩ := Inv.reads I (dok_plain k2) he ry
      have h1 := dok_depth k1
      exact SeqAt.eq_plain r1 r2 (dok_plain k1) (dok_plain k2) (by omega) fin
    · cases ec
  | NotEq =>
    simp only [cmpD] at ec
    split at ec
    · rename_i hk
      cases ec
      obtain ⟨k1, k2⟩ := Bool.and_eq_true_iff.mp hk
      obtain ⟨as, r1⟩ := Inv.reads I (dok_plain k1) hd rx
      obtain ⟨bs, r2⟩ := Inv.reads I (dok_plain k2) he ry
      have h1 := dok_depth k1
      exact SeqAt.ne_plain r1 r2 (dok_plain k1) (dok_plain k2) (by omega) fin
    · cases ec
  | Lt =>
    simp only [cmpD] at ec
    split at ec
    · rename_i hk
      cases ec
      simp only [ltOk, Bool.and_eq_true] at hk
      obtain ⟨⟨⟨⟨k1, k2⟩, k3⟩, k4⟩, k5⟩ := hk
      obtain ⟨as, r1⟩ := Inv.reads I (dok_plain k1) hd rx
      obtain ⟨bs, r2⟩ := Inv.reads I (dok_plain k2) he ry
      have h1 := dok_depth k1
      exact W.lt_data r1 r2 k3 (notNone_ne k4) (by omega) fin
    · cases ec
  | LtE =>
    simp only [cmpD] at ec
    split at ec
    · rename_i hk
      cases ec
      simp only [ltOk, Bool.and_eq_true] at hk
      obtain ⟨⟨⟨⟨k1, k2⟩, k3⟩, k4⟩, k5⟩ := hk
      obtain ⟨as, r1⟩ := Inv.reads I (dok_plain k1) hd rx
      obtain ⟨bs, r2⟩ := Inv.reads I (dok_plain k2) he ry
      have h1 := dok_depth k1
      exact W.le_data r1 r2 k3 (notNone_ne k4) (by omega) fin
    · cases ec
  | Gt =>
    simp only [cmpD] at ec
    split at ec
    · rename_i hk
      cases ec
      simp only [ltOk, Bool.and_eq_true] at hk
      obtain ⟨⟨⟨⟨k1, k2⟩, k3⟩, k4⟩, k5⟩ := hk
      obtain ⟨as, r1⟩ := Inv.reads I (dok_plain k1) hd rx
      obtain ⟨bs, r2⟩ := Inv.reads I (dok_plain k2) he ry
      have h1 := dok_depth k1
      exact W.gt_data r1 r2 k3 (notNone_ne k4) (by omega) fin
    · cases ec
  | GtE =>
    simp only [cmpD] at ec
    split at ec
    · rename_i hk
      cases ec
      simp only [ltOk, Bool.and_eq_true] at hk
      obtain ⟨⟨⟨⟨k1, k2⟩, k3⟩, k4⟩, k5⟩ := hk
      obtain ⟨as, r1⟩ := Inv.reads I (dok_plain k1) hd rx
      obtain ⟨bs, r2⟩ := Inv.reads I (dok_plain k2) he ry
      have h1 := dok_depth k1
      exact W.ge_data r1 r2 k3 (notNone_ne k4) (by omega) fin
    · cases ec
  | Is =>
    simp only [cmpD] at ec
    cases e with
    | none =>
      cases he.non
      refine op_isN pins s σ H _ _ v u Q I rx ry ⟨rfl, ?_⟩
      cases d with
      | none => cases hd.non; cases ec; exact q
      | bool k => cases hd.bl; cases ec; exact q
      | int k => cases hd.int; cases ec; exact q
      | str k => cases hd.str; cases ec; exact q
      | list k => obtain ⟨a, xs, rfl, _⟩ := hd.list; cases ec; exact q
      | tuple k => obtain ⟨a, xs, rfl, _⟩ := hd.tup; cases ec; exact q
      | dict k =>
        cases ec
        obtain ⟨a, rfl⟩ := hd.refd
        exact q
    | bool k =>
      cases he.bl
      cases d with
      | bool j =>
        cases hd.bl
        cases ec
        exact op_isBl pins s σ H _ _ v u Q I rx ry ⟨j, k, rfl, rfl, q⟩
      | _ => cases ec
    | _ => cases ec
  | IsNot =>
    simp only [cmpD] at ec
    cases e with
    | none =>
      cases he.non
      refine op_notN pins s σ H _ _ v u Q I rx ry ⟨rfl, ?_⟩
      cases d with
      | none => cases hd.non; cases ec; exact q
      | bool k => cases hd.bl; cases ec; exact q
      | int k => cases hd.int; cases ec; exact q
      | str k => cases hd.str; cases ec; exact q
      | list k => obtain ⟨a, xs, rfl, _⟩ := hd.list; cases ec; exact q
      | tuple k => obtain ⟨a, xs, rfl, _⟩ := hd.tup; cases ec; exact q
      | dict k =>
        cases ec
        obtain ⟨a, rfl⟩ := hd.refd
        exact q
    | bool k =>
      cases he.bl
      cases d with
      | bool j =>
        cases hd.bl
        cases ec
        exact op_notBl pins s σ H _ _ v u Q I rx ry ⟨j, k, rfl, rfl, q⟩
      | _ => cases ec
    | _ => cases ec
  | In =>
    simp only [cmpD] at ec
    cases e with
    | list xs =>
      simp only at ec
      split at ec
      · rename_i hk
        cases ec
        obtain ⟨k1, k2⟩ := Bool.and_eq_true_iff.mp hk
        obtain ⟨as, r1⟩ := Inv.reads I (dok_plain k1) hd rx
        obtain ⟨bs, r2⟩ := Inv.reads I (dok_plain k2) he ry
        have h1 := dok_depth k1
        exact SeqAt.in_list_data r2 r1 (by simpa [PyData.plain] using dok_plain k2) (dok_plain k1) (by omega) fin
      · cases ec
    | tuple xs =>
      simp only at ec
      split at ec
      · rename_i hk
        cases ec
        obtain ⟨k1, k2⟩ := Bool.and_eq_true_iff.mp hk
        obtain ⟨as, r1⟩ := Inv.reads I (dok_plain k1) hd rx
        obtain ⟨bs, r2⟩ := Inv.reads I (dok_plain k2) he ry
        have h1 := dok_depth k1
        exact SeqAt.in_tuple_data r2 r1 (by simpa [PyData.plain] using dok_plain k2) (dok_plain k1) (by omega) fin
      · cases ec
    | dict kvs =>
      cases d with
      | int k =>
        simp only at ec
        split at ec
        · rename_i hn
          cases ec
          obtain ⟨p, ks, xs, ds, rfl, rfl, hl, h1, h2⟩ := he.dz hn
          cases hd.int
          cases ry
          have hs := dz_some k h2 hl
          exact d_in (by omega) I (DGet.k (k := Sum.inl k) h1) rx fun s' I' => ⟨.bl _, H, I', rfl, by rw [hs]; exact q⟩
        · cases ec
      | _ => cases ec
    | _ => cases ec
  | NotIn =>
    simp only [cmpD] at ec
    cases e with
    | list xs =>
      simp only at ec
      split at ec
      · rename_i hk
        cases ec
        obtain ⟨k1, k2⟩ := Bool.and_eq_true_iff.mp hk
        obtain ⟨as, r1⟩ := Inv.reads I (dok_plain k1) hd rx
        obtain ⟨bs, r2⟩ := Inv.reads I (dok_plain k2) he ry
        have h1 := dok_depth k1
        exact SeqAt.notIn_list_data r2 r1 (by simpa [PyData.plain] using dok_plain k2) (dok_plain k1) (by omega) fin
      · cases ec
    | tuple xs =>
      simp only at ec
      split at ec
      · rename_i hk
        cases ec
        obtain ⟨k1, k2⟩ := Bool.and_eq_true_iff.mp hk
        obtain ⟨as, r1⟩ := Inv.reads I (dok_plain k1) hd rx
        obtain ⟨bs, r2⟩ := Inv.reads I (dok_plain k2) he ry
        have h1 := dok_depth k1
        exact SeqAt.notIn_tuple_data r2 r1 (by simpa [PyData.plain] using dok_plain k2) (dok_plain k1) (by omega) fin
      · cases ec
    | dict kvs =>
      cases d with
      | int k =>
        simp only at ec
        split at ec
        · rename_i hn
          cases ec
          obtain ⟨p, ks, xs, ds, rfl, rfl, hl, h1, h2⟩ := he.dz hn
          cases hd.int
          cases ry
          have hs := dz_some k h2 hl
          exact d_notIn (by omega) I (DGet.k (k := Sum.inl k) h1) rx fun s' I' => ⟨.bl _, H, I', rfl, by rw [hs]; exact q⟩
        · cases ec
      | _ => cases ec
    | _ => cases ec

/-! ### subscripts, slices -/
theorem atI_rel {K : PySem.W.Frag} {H : Hp} {O : Addr → Prop} {xs : List V} {ds : List PyData} {i : Int} {d : PyData} (h : RVs K H O xs ds) (e : atI ds i = some d) : ∃ v, atI xs i = some v ∧ RV K H O v d := by
  unfold atI at e ⊢
  rw [h.length]
  cases q : ixN ds.length i with
  | none => rw [q] at e; cases e
  | some j =>
    rw [q] at e
    exact h.get e
theorem ix_dk (hu : X.A.units + 64 < cLine) : IxR X (fun x y H Q => ∃ a kvs k v, x = .ref a ∧ y = .int k ∧ H a = some (.dK kvs) ∧ valV kvs (Sum.inl k) = some v ∧ Q v H) := by
  intro value slice pins s σ H x y v u Q I rx ry h hs
  obtain ⟨a, kvs, k, w, rfl, rfl, h1, e, q⟩ := h
  cases rx
  have g : DGet H a (.int k) (some w) := by
    have := DGet.k (k := Sum.inl k) h1
    rw [e] at this
    exact this
  refine tail_any (ops := [.ref a, u]) (dict_typeIs I g) PySem.F.slot_dict_getitem.lookup ?_ hs
  exact d_getItem (by omega) I g ry fun w' s' I' r' => ⟨w, H, I', r', q⟩
theorem ix_any (hu : X.A.units + 64 < cLine) : IxR X (rP2 X.K fun d e => (idxD d e).map .v) := by
  intro value slice pins s σ H x y v u Q I rx ry ⟨O, d, e, o, lo, hd, he, ef, hq⟩ hsub
  dsimp only at ef
  cases ec : idxD d e with
  | none => rw [ec] at ef; cases ef
  | some g =>
  rw [ec] at ef
  cases ef
  unfold idxD at ec
  split at ec
  · rename_i xs i
    obtain ⟨a, zs, rfl, h1, h2⟩ := hd.list
    cases he.int
    obtain ⟨w, e1, e2⟩ := atI_rel h2 ec
    exact ix_list value slice pins s σ H _ _ v u Q I rx ry ⟨a, zs, i, w, rfl, rfl, .inl (.inl h1), e1, hq _ _ (PR.val e2)⟩ hsub
  · rename_i xs i
    obtain ⟨a, zs, rfl, h1, h2⟩ := hd.tup
    cases he.int
    obtain ⟨w, e1, e2⟩ := atI_rel h2 ec
    exact ix_tup value slice pins s σ H _ _ v u Q I rx ry ⟨a, zs, i, w, rfl, rfl, h1.sqT, e1, hq _ _ (PR.val e2)⟩ hsub
  · rename_i xs i
    obtain ⟨a, zs, rfl, h1, h2⟩ := RT.fl hd
    cases he.int
    obtain ⟨w, e1, e2⟩ := atI_rel h2 ec
    exact ix_list value slice pins s σ H _ _ v u Q I rx ry ⟨a, zs, i, w, rfl, rfl, h1, e1, hq _ _ (PR.val e2)⟩ hsub
  · rename_i kvs k nf
    split at ec
    · rename_i hn
      obtain ⟨a, ks, xs, ds, rfl, rfl, hl, h1, h2⟩ := hd.dz hn
      cases he.int
      obtain ⟨w, e1, e2⟩ := (dz_get k h2 hl).1 _ ec
      exact ix_dk hu value slice pins s σ H _ _ v u Q I rx ry ⟨a, KZ ks xs, k, w, rfl, rfl, h1, e1, hq _ _ (PR.val e2)⟩ hsub
    · cases ec
  · rename_i z i
    cases hd.str
    cases he.int
    split at ec
    · rename_i hl
      cases e2 : atI z.cps.toList i with
      | none => rw [e2] at ec; cases ec
      | some c =>
        rw [e2] at ec
        cases ec
        exact ix_str value slice pins s σ H _ _ v u Q I rx ry ⟨z, i, c, rfl, rfl, hl, e2, hq _ _ (PR.val (.str _))⟩ hsub
    · cases ec
  · cases ec
theorem cut_rel {K : PySem.W.Frag} {H : Hp} {O : Addr → Prop} {xs : List V} {ds : List PyData} (h : RVs K H O xs ds) (lo hi : Option Int) : RVs K H O (cutV xs lo hi) (cutD ds lo hi) := by
  unfold cutV cutD
  rw [h.length]
  exact (h.drop _).take _
/-- the slice of a list, of a tuple -/
def rSlc (K : PySem.W.Frag) : V → Option Int → Option Int → Hp → VK → Prop := fun x lo hi H Q => ∃ O d o, LO H O ∧ RT K H O x d ∧ (match d with
    | .list xs => o = .f (.list (cutD xs lo hi))
    | .tuple xs => o = .v (.tuple (cutD xs lo hi))
    | _ => False) ∧ ∀ z H', PR K O H o z H' → Q z H'
theorem sl_any : SlR X (rSlc X.K) := by
  intro pins s σ H x v vl vu lo hi sl Q I rx hs pl pu ⟨O, d, o, l, hd, ho, hq⟩
  cases d with
  | list xs =>
    simp only at ho
    subst ho
    obtain ⟨a, zs, rfl, h1, h2⟩ := hd.list
    exact sl_list pins s σ H _ v vl vu lo hi sl Q I rx hs pl pu ⟨a, zs, rfl, .inl (.inl h1), fun p hp => hq _ _ (PR.lst l (cut_rel h2 lo hi) hp)⟩
  | tuple xs =>
    simp only at ho
    subst ho
    obtain ⟨a, zs, rfl, h1, h2⟩ := hd.tup
    refine sl_cutT pins s σ H _ v vl vu lo hi sl Q I rx hs pl pu ⟨a, zs, rfl, h1.sqT, fun e => ?_, PR.newT l (cut_rel h2 lo hi) hq⟩
    have ec : cutD xs lo hi = xs := by
      unfold cutD
      rw [← h2.length, e.1, e.2, List.drop_zero, Nat.sub_zero, h2.length, List.take_length]
    rw [ec] at hq
    exact hq _ _ (PR.val (.tup h1 h2))
  | _ => exact ho.elim
end
end DM
set_option Elab.async false
set_option linter.all false
set_option maxRecDepth 100000
/-! DMU: sorted(t) of a tuple, at the library's level. -/
namespace DM
open PySem PySem.Spec PyProof.Rows L2 PySem.W
section
variable {prog : Program} {w : World} {A : Around} {E : Value → Shared → Prop} {s : Shared}
theorem gather_tup {l : Addr} {vs : List Value} {Q : List Value → Shared → Prop} (hl : s.heap.IsTuple l vs.toArray)
    (h : Q vs { s with heap := (s.heap.push (seqObj "list" #[] 0)).update s.heap.objs.size (Obj.mapSeq (· ++ vs.toArray)) }) (hsz : vs.length ≤ sizeLine) :
    wpAny (model prog w) A (collect (.ref l)) Q E s := by
  obtain ⟨o, ho, hc, n, hd⟩ := id hl
  unfold collect
  refine wpAny_bind (wpAny_runValue (codeAny_builtin entry_proto_collect' ?_))
  show wpAny _ _ (do again (.builtin "list.__iadd__" ⟨[← newList [], .ref l], []⟩)) _ _ s
  refine wpAny_bind (wpAny_newList (wpAny_pure ⟨Code.quiet_builtin _ (by decide +kernel), codeAny_builtin entry_list_iadd' ?_⟩))
  show wpAny _ _ (Builtin.List.listExtendWith (.ref s.heap.objs.size) (.ref l) (.ref s.heap.objs.size)) _ _ { s with heap := s.heap.push (seqObj "list" #[] 0) }
  unfold Builtin.List.listExtendWith
  have ho' : (s.heap.push (seqObj "list" #[] 0)).get? l = some o := Heap.get?_push_of_some _ ho
  refine wpAny_bind (wpAny_typeOf (T := "tuple") ⟨o, ho', hc⟩ ?_)
  have ht : (Value.type "tuple" == Value.type "tuple") = true := by rfl
  rw [if_pos (by rw [ht]; simp)]
  refine wpAny_bind (listItems_at ho' hd ?_)
  refine wpAny_bind (listItems_at (xs := #[]) (n := 0) (Heap.get?_push_size _ rfl) rfl ?_)
  rw [if_neg (by simp)]
  refine wpAny_bind (listUpdate_at (xs := #[]) (n := 0) (Heap.get?_push_size _ rfl) rfl ?_ (Nat.zero_le _) (by show (#[] ++ vs.toArray).size ≤ sizeLine + 1; simp only [Array.size_append, List.size_toArray, List.length_nil]; omega))
  refine wpAny_pure ?_
  show wpAny (model prog w) A (do
      let o ← load s.heap.objs.size
      match o.data with
      | .seq xs _ => pure xs.toList
      | _ => unsupported "internal:collect") Q E { s with heap := (s.heap.push (seqObj "list" #[] 0)).update s.heap.objs.size (Obj.mapSeq (· ++ vs.toArray)) }
  refine wpAny_bind (wpAny_load (get?_update_seq (Heap.get?_push_size _ rfl) _) ?_)
  show wpAny _ _ (pure ((#[] : Array Value) ++ vs.toArray).toList) Q E _
  have e : ((#[] : Array Value) ++ vs.toArray).toList = vs := by simp
  rw [e]
  exact wpAny_pure h
theorem sortedT_of_sort {l : Addr} {vs : List Value} {kw : List (Str × Value)} {Q : Value → Shared → Prop} (hl : s.heap.IsTuple l vs.toArray) (hL : vs.length ≤ sizeLine) (ha1 : argsOk "sorted" ⟨[.ref l], kw⟩) (ha2 : ∀ x, argsOk "list.sort" ⟨[.ref x], kw⟩)
    (body : ∀ E' : Value → Shared → Prop, wpAny (model prog w) A.in1.in1 (Builtin.«list.sort» ⟨[.ref (s.heap.objs.size + 1)], kw⟩) (fun f s' => f = .done (.ret .none) ∧ Q (.ref (s.heap.objs.size + 1)) s') E' { s with heap := copyHeap s.heap vs }) :
    wpAny (model prog w) A (call (.builtin "sorted") [.ref l] kw) Q E s := by
  refine call_function_entry_kw kind_sorted plain_sorted entry_sorted ha1 ?_
  unfold Builtin.«sorted»
  refine wpAny_bind (m := checkCount "sorted" 1 1 _) (wpAny_pure ?_)
  refine wpAny_bind (gather_tup hl ?_ hL)
  refine wpAny_bind (wpAny_newList ?_ hL)
  have hsz : ((s.heap.push (seqObj "list" #[] 0)).update s.heap.objs.size (Obj.mapSeq (· ++ vs.toArray))).objs.size = s.heap.objs.size + 1 := by
    rw [Heap.size_update, size_push']
  show wpAny _ _ _ _ _ { s with heap := copyHeap s.heap vs }
  rw [hsz]
  refine wpAny_bind (wpAny_holding (wpAny_call_entry_kw slot_list_sort ⟨_, copyHeap_at s.heap vs, rfl⟩ entry_list_sort ?body (ha2 _)))
  case body =>
    show wpAny (model prog w) A.in1.in1 (Builtin.«list.sort» ⟨[.ref (s.heap.objs.size + 1)], kw⟩) _ _ _
    refine wpAny_mono (body _) (fun f s' hf => ?_) fun _ _ e => e
    obtain ⟨rfl, hq⟩ := hf
    exact ⟨_, rfl, wpAny_pure ⟨_, rfl, hq⟩⟩
section
variable {β : Type} {vs : List Value} {bs : List β} {enc : β → PyData} {R : Value → β → Prop}
theorem sortedT_data {l : Addr} {Q : Value → Shared → Prop} (hl : s.heap.IsTuple l vs.toArray) (e : EachIs R vs bs) (er : EachIs (fun v b => ∃ as, Reads s.heap v (enc b) as) vs bs) (hal : AllAlike (bs.map enc)) (hk : Sortable (bs.map enc)) (hL : bs.length ≤ sizeLine)
    (hu : ∀ b, b ∈ bs → A.units + 2 + (enc b).depth < cLine) (h : ∀ out, out.length = bs.length → EachIs R out (bs.mergeSort (dataLe false enc)) → Q (.ref (s.heap.objs.size + 1)) { s with heap := sortedAll s.heap vs (List.toArray out) }) :
    wpAny (model prog w) A (call (.builtin "sorted") [.ref l]) Q E s := by
  have er' : EachIs (fun v b => ∃ as, Reads (sortingHeap (copyHeap s.heap vs) (s.heap.objs.size + 1) vs) v (enc b) as) vs bs := er.mono fun _ _ ⟨as, r⟩ => ⟨as, PyProof.Rows.Reads.keeps (fun _ _ => sorting_copy_old) r⟩
  exact sortedT_of_sort hl (by rw [e.length]; exact hL) (args_sorted1 _) (fun _ => args_list_sort _) fun _ => list_sort_vals (s := { s with heap := copyHeap s.heap vs }) (copyHeap_at s.heap vs) (SortsAt.data (s := { s with heap := sortingHeap (copyHeap s.heap vs) (s.heap.objs.size + 1) vs }) (each_map (R := fun v d => ∃ as, Reads (sortingHeap (copyHeap s.heap vs) (s.heap.objs.size + 1) vs) v d as) enc er') hal hk (bound_map hu)) (by rw [e.length]; exact hL)
    ⟨rfl, h _ (by rw [sortVals_length false rfl]; exact e.length) (sortVals_data false e er' hal)⟩
end
end
end DM
set_option Elab.async false
set_option linter.all false
set_option maxRecDepth 100000
/-! DM5: built-in functions by values. -/
namespace DM
open PySem PySem.Spec PyProof.Rows L2
section
variable {X : Cx}
theorem RTs.one {K : PySem.W.Frag} {H : Hp} {O : Addr → Prop} {xs : List V} {d : PyData} (h : RTs K H O xs [d]) : ∃ x, xs = [x] ∧ RT K H O x d := by
  cases h with
  | cons h r => cases r; exact ⟨_, rfl, h⟩
theorem RTs.two {K : PySem.W.Frag} {H : Hp} {O : Addr → Prop} {xs : List V} {d e : PyData} (h : RTs K H O xs [d, e]) : ∃ x y, xs = [x, y] ∧ RT K H O x d ∧ RT K H O y e := by
  cases h with
  | cons h r =>
    obtain ⟨y, rfl, r1⟩ := r.one
    exact ⟨_, _, rfl, h, r1⟩
theorem intsOf_map : ∀ {ds : List PyData} {ns : List Int}, intsOf ds = some ns → ds = ns.map PyData.int
  | [], ns, h => by cases h; rfl
  | .int i :: r, ns, h => by
    simp only [intsOf] at h
    cases e : intsOf r with
    | none => rw [e] at h; cases h
    | some ms => rw [e] at h; cases h; rw [intsOf_map e]; rfl
  | .none :: _, _, h => by cases h
  | .bool _ :: _, _, h => by cases h
  | .str _ :: _, _, h => by cases h
  | .list _ :: _, _, h => by cases h
  | .tuple _ :: _, _, h => by cases h
  | .dict _ :: _, _, h => by cases h
theorem boolsOf_map : ∀ {ds : List PyData} {ns : List Bool}, bools ds = some ns → ds = ns.map PyData.bool
  | [], ns, h => by cases h; rfl
  | .bool i :: r, ns, h => by
    simp only [bools] at h
    cases e : bools r with
    | none => rw [e] at h; cases h
    | some ms => rw [e] at h; cases h; rw [boolsOf_map e]; rfl
  | .none :: _, _, h => by cases h
  | .int _ :: _, _, h => by cases h
  | .str _ :: _, _, h => by cases h
  | .list _ :: _, _, h => by cases h
  | .tuple _ :: _, _, h => by cases h
  | .dict _ :: _, _, h => by cases h
theorem RVs.ints {K : PySem.W.Frag} {H : Hp} {O : Addr → Prop} : ∀ {ns : List Int} {xs : List V}, RVs K H O xs (ns.map PyData.int) → xs = ns.map V.int
  | [], _, h => by cases h; rfl
  | n :: ns, _, h => by
    cases h with
    | cons h r => cases h.i; rw [RVs.ints r]; rfl
theorem RVs.bls {K : PySem.W.Frag} {H : Hp} {O : Addr → Prop} : ∀ {ns : List Bool} {xs : List V}, RVs K H O xs (ns.map PyData.bool) → xs = ns.map V.bl
  | [], _, h => by cases h; rfl
  | n :: ns, _, h => by
    cases h with
    | cons h r => cases h.b; rw [RVs.bls r]; rfl
theorem RVs.of_ints {K : PySem.W.Frag} {H : Hp} {O : Addr → Prop} : ∀ (ns : List Int), RVs K H O (ns.map V.int) (ns.map PyData.int)
  | [] => .nil
  | n :: ns => .cons (.int n) (RVs.of_ints ns)
theorem dok_mem {ds : List PyData} (h : ds.all dok = true) : PyData.plainAll ds = true ∧ PyData.depthAll ds ≤ 60 := by
  induction ds with
  | nil => exact ⟨by simp [PyData.plainAll], by simp [PyData.depthAll]⟩
  | cons d r ih =>
    rw [List.all_cons, Bool.and_eq_true] at h
    obtain ⟨a, b⟩ := ih h.2
    refine ⟨by simp [PyData.plainAll, dok_plain h.1, a], ?_⟩
    have := dok_depth h.1
    simp only [PyData.depthAll]
    omega
theorem allAlike_of {ds : List PyData} (h : allAlike ds = true) : W.AllAlike ds := fun d hd e he => by
  unfold allAlike at h
  exact List.all_eq_true.mp (List.all_eq_true.mp h d hd) e he
theorem maxOk_of {ds : List PyData} (h : maxOk ds = true) : W.AlikeAll ds ∧ PyData.plainAll ds = true ∧ PyData.depthAll ds ≤ 60 := by
  unfold maxOk at h
  rw [Bool.and_eq_true, Bool.and_eq_true] at h
  obtain ⟨⟨h1, h2⟩, h3⟩ := h
  exact ⟨⟨fun d hd e he => allAlike_of h1 d hd e he, fun d hd => notNone_ne (List.all_eq_true.mp h2 d hd)⟩, dok_mem h3⟩
/-- the item that max, min hand back -/
theorem pick_item {pins : List (Addr × Obj)} {σ : L2.St} {H : Hp} {s : Shared} {O : Addr → Prop} {xs : List V} {its : List Value} {ds : List PyData} {i : Nat} {v : Value} {g : PyData} {h' : Heap} {bs : List Addr} (I : Inv X pins σ H s) (rv : Vals xs its) (rs : RVs X.K H O xs ds) (pl : PyData.plainAll ds = true)
    (hi : its.toArray[i]? = some v) (hr : Reads h' v g bs) (hk : ∀ b o, s.heap.get? b = some o → h'.get? b = some o) : ∃ w, RelV w v ∧ RV X.K H O w g := by
  have hi' : its[i]? = some v := by simpa using hi
  obtain ⟨hl, _⟩ := List.getElem?_eq_some_iff.mp hi'
  have hl2 : i < xs.length := by rw [rv.length]; exact hl
  obtain ⟨u, e1, r1⟩ := rv.get (List.getElem?_eq_getElem hl2)
  rw [hi'] at e1
  cases e1
  obtain ⟨d, e2, r2⟩ := rs.get' (List.getElem?_eq_getElem hl2)
  have pd : d.plain = true := W.plain_mem pl (List.mem_of_getElem? e2)
  obtain ⟨as, q⟩ := Dp.reads I d _ _ (r2.dp pd) r1
  have e3 : d = g := SeqAt.plain_unique d g v as bs pd (PyProof.Rows.Reads.keeps hk q) hr
  subst e3
  exact ⟨_, r1, r2⟩

/-! ### the rules -/
theorem cb_len : CallR X (.builtin "len") (rPn X.K (bltD .len)) := by
  intro pins s σ H vs us Q I r ⟨O, ds, o, lo, h, ef, hq⟩
  change blenD ds = some o at ef
  unfold blenD at ef
  split at ef <;> try (cases ef; done)
  · cases ef
    obtain ⟨x, rfl, hx⟩ := h.one
    obtain ⟨a, xs, rfl, h1, h2⟩ := hx.list
    exact call_len_seq pins s σ H _ us Q I r ⟨a, xs, rfl, .inl (.inl (.inl h1)), by rw [h2.length]; exact hq _ _ (PR.val (.int _))⟩
  · cases ef
    obtain ⟨x, rfl, hx⟩ := h.one
    obtain ⟨a, xs, rfl, h1, h2⟩ := hx.tup
    exact call_len_seq pins s σ H _ us Q I r ⟨a, xs, rfl, .inr h1.sqT, by rw [h2.length]; exact hq _ _ (PR.val (.int _))⟩
  · cases ef
    obtain ⟨x, rfl, hx⟩ := h.one
    obtain ⟨a, xs, rfl, h1, h2⟩ := RT.fl hx
    exact call_len_seq pins s σ H _ us Q I r ⟨a, xs, rfl, .inl h1, by rw [h2.length]; exact hq _ _ (PR.val (.int _))⟩
  · split at ef
    · rename_i hn
      cases ef
      obtain ⟨x, rfl, hx⟩ := h.one
      obtain ⟨a, ks, xs, es, rfl, rfl, hl, h1, h2⟩ := hx.dz hn
      rw [Vals.ref1 r]
      exact d_len I (.inl h1) fun t s' I' => ⟨.int _, H, I', ⟨t, rfl⟩, by rw [(dz_len h2 hl).2, ← (dz_len h2 hl).1]; exact hq _ _ (PR.val (.int _))⟩
    · cases ef
  · split at ef
    · rename_i hl
      cases ef
      obtain ⟨x, rfl, hx⟩ := h.one
      cases hx.str
      exact call_len_str pins s σ H _ us Q I r ⟨_, rfl, hl, hq _ _ (PR.val (.int _))⟩
    · cases ef
theorem cb_abs : CallR X (.builtin "abs") (rPn X.K (bltD .abs)) := by
  intro pins s σ H vs us Q I r ⟨O, ds, o, lo, h, ef, hq⟩
  change babsD ds = some o at ef
  unfold babsD at ef
  split at ef <;> try (cases ef; done)
  cases ef
  obtain ⟨x, rfl, hx⟩ := h.one
  cases hx.int
  exact call_abs pins s σ H _ us Q I r ⟨_, rfl, hq _ _ (PR.val (.int _))⟩
theorem cb_int : CallR X (.type "int") (rPn X.K (bltD .int)) := by
  intro pins s σ H vs us Q I r ⟨O, ds, o, lo, h, ef, hq⟩
  change bintD ds = some o at ef
  unfold bintD at ef
  split at ef <;> try (cases ef; done)
  cases ef
  obtain ⟨x, rfl, hx⟩ := h.one
  cases hx.int
  exact call_int1 pins s σ H _ us Q I r (.inl ⟨_, rfl, hq _ _ (PR.val (.int _))⟩)
theorem kept_rv {pins : List (Addr × Obj)} {σ : L2.St} {H : Hp} {s : Shared} {h' : Heap} {tk : Nat} {Q : VK} {w : V} {v : Value} (I : Inv X pins σ H s) (hk : ∀ b o, s.heap.get? b = some o → h'.get? b = some o) (r : RelV w v) (q : Q w H) : EP X pins σ Q v { s with heap := h', toks := tk } := ⟨w, H, I.kept hk, r, q⟩
theorem sum_rawT {prog : Program} {w : World} {A : Around} {E : Value → Shared → Prop} {s : Shared} {l : Addr} {its : List Value} {ns : List Int} {Q : Value → Shared → Prop} (hh : A.handled = none) (hl : s.heap.IsTuple l its.toArray) (hi : IntsAre its ns)
    (h : ∀ h' tk t', (∀ b o, s.heap.get? b = some o → h'.get? b = some o) → Q (.int ns.sum t') { s with heap := h', toks := tk }) : wpAny (model prog w) A (call (.builtin "sum") [.ref l]) Q E s := by
  obtain ⟨xs, e⟩ := hi.allInts.items
  have hn : numsOf (intItems xs).toList = ns := by rw [← e]; exact hi.numsOf
  rw [nums_intItems] at hn
  rw [e] at hl
  refine PySem.W.ktm_sumG hh hl fun h' tk t' hk => ?_
  have := h h' tk t' hk
  rw [preSum_eq, List.take_of_length_le (by simp), hn]; exact this
theorem cb_sum (hc : X.calm = true) : CallR X (.builtin "sum") (rPn X.K (bltD .sum)) := by
  intro pins s σ H vs us Q I r ⟨O, ds, o, lo, h, ef, hq⟩
  change bsumD ds = some o at ef
  unfold bsumD at ef
  split at ef <;> try (cases ef; done)
  · rename_i xs
    cases ei : intsOf xs with
    | none => rw [ei] at ef; cases ef
    | some ns =>
      rw [ei] at ef
      cases ef
      obtain ⟨x, rfl, hx⟩ := h.one
      obtain ⟨a, zs, rfl, h1, h2⟩ := hx.list
      rw [intsOf_map ei] at h2
      rw [h2.ints] at h1
      exact cr_sum hc pins s σ H _ us Q I r ⟨a, ns, rfl, .inl (.inl h1), hq _ _ (PR.val (.int _))⟩
  · rename_i xs
    cases ei : intsOf xs with
    | none => rw [ei] at ef; cases ef
    | some ns =>
      rw [ei] at ef
      cases ef
      obtain ⟨x, rfl, hx⟩ := h.one
      obtain ⟨a, zs, rfl, h1, h2⟩ := hx.tup
      rw [intsOf_map ei] at h2
      rw [h2.ints] at h1
      obtain ⟨its, rv, pl, _⟩ := I.tuple h1.sqT
      rw [Vals.ref1 r]
      exact sum_rawT (I.ok.hd hc) (show s.heap.IsTuple a its.toArray from pl) rv.ints fun h' tk t' hk => kept_rv (w := .int ns.sum) I hk ⟨_, rfl⟩ (hq _ _ (PR.val (.int _)))
theorem cb_all (hc : X.calm = true) : CallR X (.builtin "all") (rPn X.K (bltD .all)) := by
  intro pins s σ H vs us Q I r ⟨O, ds, o, lo, h, ef, hq⟩
  change ballD ds = some o at ef
  unfold ballD at ef
  split at ef <;> try (cases ef; done)
  rename_i xs
  cases ei : bools xs with
  | none => rw [ei] at ef; cases ef
  | some ns =>
    rw [ei] at ef
    cases ef
    obtain ⟨x, rfl, hx⟩ := h.one
    obtain ⟨a, zs, rfl, h1, h2⟩ := hx.list
    rw [boolsOf_map ei] at h2
    rw [h2.bls] at h1
    exact cr_all hc pins s σ H _ us Q I r ⟨a, ns, rfl, .inl (.inl h1), hq _ _ (PR.val (.bl _))⟩
theorem cb_any (hc : X.calm = true) : CallR X (.builtin "any") (rPn X.K (bltD .any)) := by
  intro pins s σ H vs us Q I r ⟨O, ds, o, lo, h, ef, hq⟩
  change banyD ds = some o at ef
  unfold banyD at ef
  split at ef <;> try (cases ef; done)
  rename_i xs
  cases ei : bools xs with
  | none => rw [ei] at ef; cases ef
  | some ns =>
    rw [ei] at ef
    cases ef
    obtain ⟨x, rfl, hx⟩ := h.one
    obtain ⟨a, zs, rfl, h1, h2⟩ := hx.list
    rw [boolsOf_map ei] at h2
    rw [h2.bls] at h1
    exact cr_any hc pins s σ H _ us Q I r ⟨a, ns, rfl, .inl (.inl h1), hq _ _ (PR.val (.bl _))⟩
theorem cb_tuple : CallR X (.type "tuple") (rPn X.K (bltD .tuple)) := by
  intro pins s σ H vs us Q I r ⟨O, ds, o, lo, h, ef, hq⟩
  change btupleD ds = some o at ef
  unfold btupleD at ef
  split at ef <;> try (cases ef; done)
  · cases ef
    obtain ⟨x, rfl, hx⟩ := h.one
    obtain ⟨a, xs, rfl, h1, h2⟩ := hx.list
    exact call_tupT pins s σ H _ us Q I r ⟨a, xs, rfl, .inl ⟨.inl (.inl h1), PR.newT lo h2 hq⟩⟩
  · cases ef
    obtain ⟨x, rfl, hx⟩ := h.one
    obtain ⟨a, xs, rfl, h1, h2⟩ := hx.tup
    exact call_tupT pins s σ H _ us Q I r ⟨a, xs, rfl, .inr ⟨h1.sqT, hq _ _ (PR.val (.tup h1 h2))⟩⟩
theorem vals_of_get : ∀ {xs : List V} {us : List Value}, xs.length = us.length → (∀ (i : Nat) v u, xs[i]? = some v → us[i]? = some u → L2.RelV v u) → Vals xs us
  | [], [], _, _ => .nil
  | x :: xs, u :: us, hl, h => .cons (h 0 x u rfl rfl) (vals_of_get (by simpa using hl) fun i v w h1 h2 => h (i + 1) v w (by simpa using h1) (by simpa using h2))
  | [], _ :: _, hl, _ => by simp at hl
  | _ :: _, [], hl, _ => by simp at hl
/-- list(d) -/
theorem call_list_dk (hc : X.calm = true) : CallR X (.type "list") (fun vs H Q => ∃ a kvs, vs = [.ref a] ∧ H a = some (.dK kvs) ∧ ∀ p, H p = none → Q (.ref p) (upd H p (.lst (kvs.map fun kv => kV kv.1)))) := by
  intro pins s σ H vs us Q I r ⟨a, kvs, e, ha, q⟩
  subst e
  rw [Vals.ref1 r]
  obtain ⟨hz, hsys, vs', rel, dof⟩ := dk_of I.hok ha
  obtain ⟨ep, dat⟩ := dof.dictAt
  refine W.kdl_call (W.kdl_dict (knd := mixKind X.prog X.w) hsys) (I.ok.hd hc) dat (by rw [← rel.length]; exact hz) fun h' tk acc' c' hk hD hacc => ?_
  have rv : Vals (kvs.map fun kv => kV kv.1) acc'.toList := vals_of_get ((List.length_map _).trans (rel.length.trans (by rw [← hacc.1]; simp))) fun i v u h1 h2 => by
    obtain ⟨k, x, h3, h4⟩ := hacc.2 i u (by rw [← Array.getElem?_toList]; exact h2)
    have h5 : (vs'.map (·.1))[i]? = some k := by rw [List.getElem?_map, h3]; rfl
    rw [← KV.keys rel, List.getElem?_map] at h5
    rw [List.getElem?_map] at h1
    cases hk2 : kvs[i]? with
    | none => rw [hk2] at h5; cases h5
    | some kv =>
      rw [hk2] at h5 h1
      cases h5
      cases h1
      rcases keyIs_shape h4 with ⟨j, t, e1, rfl⟩ | ⟨y, t, e1, rfl⟩
      · have e1 : kv.1 = Sum.inl j := e1
        show L2.RelV (kV kv.1) _
        rw [e1]; exact ⟨t, rfl⟩
      · have e1 : kv.1 = Sum.inr y := e1
        show L2.RelV (kV kv.1) _
        rw [e1]; exact ⟨t, rfl⟩
  exact ⟨.ref _, upd H s.heap.objs.size (.lst (kvs.map fun kv => kV kv.1)), I.laid (t' := tk) hk (Nat.le_refl _) ⟨by rw [List.length_map]; exact hz, acc'.toList, c', rv, by rw [Array.toArray_toList]; exact hD⟩, rfl, q _ (I.hok.fresh (Nat.le_refl _))⟩
theorem cb_list (hc : X.calm = true) : CallR X (.type "list") (rPn X.K (bltD .list)) := by
  intro pins s σ H vs us Q I r ⟨O, ds, o, lo, h, ef, hq⟩
  change blistD ds = some o at ef
  unfold blistD at ef
  split at ef <;> try (cases ef; done)
  · cases ef
    obtain ⟨x, rfl, hx⟩ := h.one
    obtain ⟨a, xs, rfl, h1, h2⟩ := hx.list
    exact call_list_of pins s σ H _ us Q I r ⟨a, xs, rfl, .inl (.inl (.inl h1)), fun p hp => hq _ _ (PR.lst lo h2 hp)⟩
  · cases ef
    obtain ⟨x, rfl, hx⟩ := h.one
    obtain ⟨a, xs, rfl, h1, h2⟩ := hx.tup
    exact call_list_of pins s σ H _ us Q I r ⟨a, xs, rfl, .inr h1.sqT, fun p hp => hq _ _ (PR.lst lo h2 hp)⟩
  · split at ef
    · rename_i hn
      cases ef
      obtain ⟨x, rfl, hx⟩ := h.one
      obtain ⟨a, ks, xs, es, rfl, rfl, hl, h1, h2⟩ := hx.dz hn
      refine call_list_dk hc pins s σ H _ us Q I r ⟨a, _, rfl, h1, fun p hp => ?_⟩
      have e1 : (KZ ks xs).map (fun kv => kV kv.1) = ks.map V.int := by
        have := congrArg (List.map kV) (dz_keys h2 hl).2
        rw [List.map_map, List.map_map] at this
        exact this
      rw [e1]
      rw [(dz_keys h2 hl).1] at hq
      exact hq _ _ (PR.lst lo (RVs.of_ints ks) hp)
    · cases ef
theorem cb_max (hc : X.calm = true) (hu : X.A.units + 64 < cLine) : CallR X (.builtin "max") (rPn X.K (bltD .max)) := by
  intro pins s σ H vs us Q I r ⟨O, ds, o, lo, h, ef, hq⟩
  change bmaxD ds = some o at ef
  unfold bmaxD at ef
  split at ef <;> try (cases ef; done)
  · cases ef
    obtain ⟨x, y, rfl, hx, hy⟩ := h.two
    cases hx.int
    cases hy.int
    exact call_max2 hc pins s σ H _ us Q I r ⟨_, _, rfl, hq _ _ (PR.val (.int _))⟩
  · rename_i x xs
    split at ef
    · rename_i hm
      cases ef
      obtain ⟨z, rfl, hz⟩ := h.one
      obtain ⟨a, zs, rfl, h1, h2⟩ := hz.list
      obtain ⟨m1, m2, m3⟩ := maxOk_of hm
      obtain ⟨its, rv, pl, _⟩ := I.list (.inl (.inl h1))
      rw [Vals.ref1 r]
      obtain ⟨as, hr⟩ := Dp.readsAll I _ zs its (h2.dp m2) rv
      refine W.max_list_data (I.ok.hd hc) pl.isList (show ReadsAll s.heap its.toArray.toList (x :: xs) as from hr) m1 (by omega) fun i v h' tk bs hi hv hk => ?_
      obtain ⟨w, w1, w2⟩ := pick_item I rv h2 m2 hi hv hk
      exact kept_rv I hk w1 (hq _ _ (PR.val w2))
    · cases ef
  · rename_i x xs
    split at ef
    · rename_i hm
      cases ef
      obtain ⟨z, rfl, hz⟩ := h.one
      obtain ⟨a, zs, rfl, h1, h2⟩ := hz.tup
      obtain ⟨m1, m2, m3⟩ := maxOk_of hm
      obtain ⟨its, rv, pl, _⟩ := I.tuple h1.sqT
      rw [Vals.ref1 r]
      obtain ⟨as, hr⟩ := Dp.readsAll I _ zs its (h2.dp m2) rv
      refine W.max_tuple_data (I.ok.hd hc) (show s.heap.IsTuple a its.toArray from pl) (show ReadsAll s.heap its.toArray.toList (x :: xs) as from hr) m1 (by omega) fun i v h' tk bs hi hv hk => ?_
      obtain ⟨w, w1, w2⟩ := pick_item I rv h2 m2 hi hv hk
      exact kept_rv I hk w1 (hq _ _ (PR.val w2))
    · cases ef
theorem cb_min (hc : X.calm = true) (hu : X.A.units + 64 < cLine) : CallR X (.builtin "min") (rPn X.K (bltD .min)) := by
  intro pins s σ H vs us Q I r ⟨O, ds, o, lo, h, ef, hq⟩
  change bminD ds = some o at ef
  unfold bminD at ef
  split at ef <;> try (cases ef; done)
  · cases ef
    obtain ⟨x, y, rfl, hx, hy⟩ := h.two
    cases hx.int
    cases hy.int
    exact call_min2 hc pins s σ H _ us Q I r ⟨_, _, rfl, hq _ _ (PR.val (.int _))⟩
  · rename_i x xs
    split at ef
    · rename_i hm
      cases ef
      obtain ⟨z, rfl, hz⟩ := h.one
      obtain ⟨a, zs, rfl, h1, h2⟩ := hz.list
      obtain ⟨m1, m2, m3⟩ := maxOk_of hm
      obtain ⟨its, rv, pl, _⟩ := I.list (.inl (.inl h1))
      rw [Vals.ref1 r]
      obtain ⟨as, hr⟩ := Dp.readsAll I _ zs its (h2.dp m2) rv
      refine W.min_list_data (I.ok.hd hc) pl.isList (show ReadsAll s.heap its.toArray.toList (x :: xs) as from hr) m1 (by omega) fun i v h' tk bs hi hv hk => ?_
      obtain ⟨w, w1, w2⟩ := pick_item I rv h2 m2 hi hv hk
      exact kept_rv I hk w1 (hq _ _ (PR.val w2))
    · cases ef
  · rename_i x xs
    split at ef
    · rename_i hm
      cases ef
      obtain ⟨z, rfl, hz⟩ := h.one
      obtain ⟨a, zs, rfl, h1, h2⟩ := hz.tup
      obtain ⟨m1, m2, m3⟩ := maxOk_of hm
      obtain ⟨its, rv, pl, _⟩ := I.tuple h1.sqT
      rw [Vals.ref1 r]
      obtain ⟨as, hr⟩ := Dp.readsAll I _ zs its (h2.dp m2) rv
      refine W.min_tuple_data (I.ok.hd hc) (show s.heap.IsTuple a its.toArray from pl) (show ReadsAll s.heap its.toArray.toList (x :: xs) as from hr) m1 (by omega) fun i v h' tk bs hi hv hk => ?_
      obtain ⟨w, w1, w2⟩ := pick_item I rv h2 m2 hi hv hk
      exact kept_rv I hk w1 (hq _ _ (PR.val w2))
    · cases ef
/-- the items with their data -/
theorem each_pair {K : PySem.W.Frag} {H : Hp} {O : Addr → Prop} : ∀ {xs : List V} {its : List Value} {ds : List PyData}, Vals xs its → RVs K H O xs ds → W.EachIs (fun (v : Value) (p : V × PyData) => RelV p.1 v ∧ RV K H O p.1 p.2) its (xs.zip ds)
  | _, _, _, .nil, .nil => .nil
  | _, _, _, .cons r t, .cons h q => .cons ⟨r, h⟩ (each_pair t q)
theorem each_back {K : PySem.W.Frag} {H : Hp} {O : Addr → Prop} : ∀ {its : List Value} {ps : List (V × PyData)}, W.EachIs (fun (v : Value) (p : V × PyData) => RelV p.1 v ∧ RV K H O p.1 p.2) its ps → Vals (ps.map Prod.fst) its ∧ RVs K H O (ps.map Prod.fst) (ps.map Prod.snd)
  | _, _, .nil => ⟨.nil, .nil⟩
  | _, _, .cons h q => ⟨.cons h.1 (each_back q).1, .cons h.2 (each_back q).2⟩
theorem each_reads {pins : List (Addr × Obj)} {σ : L2.St} {H : Hp} {s : Shared} {O : Addr → Prop} (I : Inv X pins σ H s) : ∀ {xs : List V} {its : List Value} {ds : List PyData}, PyData.plainAll ds = true → Vals xs its → RVs X.K H O xs ds → W.EachIs (fun v (b : V × PyData) => ∃ as, Reads s.heap v b.2 as) its (xs.zip ds)
  | _, _, _, _, .nil, .nil => .nil
  | _, _, _, p, .cons r t, .cons h q => .cons (Dp.reads I _ _ _ (h.dp (by simp [PyData.plainAll] at p; exact p.1)) r) (each_reads I (by simp [PyData.plainAll] at p; exact p.2) t q)
theorem sortable_of {ds : List PyData} (h : sortable ds = true) : W.Sortable ds := by
  unfold sortable at h
  rw [Bool.or_eq_true] at h
  rcases h with h | h
  · refine .inl fun d hd => ?_
    have q := List.all_eq_true.mp h d hd
    split at q
    · exact ⟨_, _, rfl⟩
    · cases q
  · refine .inr fun d hd => ?_
    have q := List.all_eq_true.mp h d hd
    split at q
    · cases q
    · cases q
    · rename_i n1 n2
      exact ⟨n1, fun xs e => n2 xs e⟩
theorem cb_sorted (hu : X.A.units + 64 < cLine) : CallR X (.builtin "sorted") (rPn X.K (bltD .sorted)) := by
  intro pins s σ H vs us Q I r ⟨O, ds, o, lo, h, ef, hq⟩
  change bsortedD ds = some o at ef
  unfold bsortedD at ef
  split at ef <;> try (cases ef; done)
  · rename_i xs
    split at ef
    · rename_i hm
      cases ef
      rw [Bool.and_eq_true, Bool.and_eq_true] at hm
      obtain ⟨⟨m1, m2⟩, m3⟩ := hm
      obtain ⟨p1, p2⟩ := dok_mem m3
      obtain ⟨z, rfl, hz⟩ := h.one
      obtain ⟨a, zs, rfl, h1, h2⟩ := hz.list
      obtain ⟨its, rv, pl, hzl⟩ := I.list (.inl (.inl h1))
      rw [Vals.ref1 r]
      have hlen : zs.length = xs.length := h2.length
      have e1 : (zs.zip xs).map Prod.snd = xs := by rw [List.map_snd_zip (Nat.le_of_eq hlen.symm)]
      have ep := each_pair (K := X.K) (H := H) (O := O) rv h2
      have er : W.EachIs (fun v (b : V × PyData) => ∃ as, Reads s.heap v b.2 as) its (zs.zip xs) := each_reads I p1 rv h2
      refine W.sorted_data (enc := Prod.snd) pl.isList ep er (by rw [e1]; exact allAlike_of m1) (by rw [e1]; exact sortable_of m2) (by rw [List.length_zip, hlen, Nat.min_self, ← hlen]; exact hzl) (fun b hb => ?_) fun out ho hout => ?_
      · have := dok_depth (List.all_eq_true.mp m3 b.2 (List.of_mem_zip hb).2)
        omega
      · obtain ⟨b1, b2⟩ := each_back hout
        have e2 : ((zs.zip xs).mergeSort (W.dataLe false Prod.snd)).map Prod.snd = xs.mergeSort (W.dataLe false id) := by
          have e3 := W.sort_maps (r := W.dataLe false (Prod.snd : V × PyData → PyData)) (s := W.dataLe false id) Prod.snd (l := zs.zip xs) (fun _ _ _ _ => rfl)
          rw [e1] at e3
          exact e3
        rw [e2] at b2
        obtain ⟨ep', he'⟩ := PyProof.Rows.sortedAll_at s.heap its out.toArray
        have hl2 : (((zs.zip xs).mergeSort (W.dataLe false Prod.snd)).map Prod.fst).length ≤ sizeLine := by
          rw [List.length_map, List.length_mergeSort, List.length_zip, hlen, Nat.min_self, ← hlen]
          exact hzl
        exact ⟨.ref _, upd H (s.heap.objs.size + 1) (.lst (((zs.zip xs).mergeSort (W.dataLe false Prod.snd)).map Prod.fst)), I.laid (t' := s.toks) (fun _ _ => PyProof.Rows.sortedAll_old) (Nat.le_succ _)
          ⟨hl2, out, ep', b1, by simpa using he'⟩, rfl, hq _ _ (PR.lst lo b2 (I.hok.fresh (Nat.le_succ _)))⟩
    · cases ef
  · rename_i xs
    split at ef
    · rename_i hm
      cases ef
      rw [Bool.and_eq_true, Bool.and_eq_true] at hm
      obtain ⟨⟨m1, m2⟩, m3⟩ := hm
      obtain ⟨p1, p2⟩ := dok_mem m3
      obtain ⟨z, rfl, hz⟩ := h.one
      obtain ⟨a, zs, rfl, h1, h2⟩ := hz.tup
      obtain ⟨its, rv, pl, hzl⟩ := I.tuple h1.sqT
      rw [Vals.ref1 r]
      have hlen : zs.length = xs.length := h2.length
      have e1 : (zs.zip xs).map Prod.snd = xs := by rw [List.map_snd_zip (Nat.le_of_eq hlen.symm)]
      have ep := each_pair (K := X.K) (H := H) (O := O) rv h2
      have er : W.EachIs (fun v (b : V × PyData) => ∃ as, Reads s.heap v b.2 as) its (zs.zip xs) := each_reads I p1 rv h2
      refine sortedT_data (enc := Prod.snd) (show s.heap.IsTuple a its.toArray from pl) ep er (by rw [e1]; exact allAlike_of m1) (by rw [e1]; exact sortable_of m2) (by rw [List.length_zip, hlen, Nat.min_self, ← hlen]; exact hzl) (fun b hb => ?_) fun out ho hout => ?_
      · have := dok_depth (List.all_eq_true.mp m3 b.2 (List.of_mem_zip hb).2)
        omega
      · obtain ⟨b1, b2⟩ := each_back hout
        have e2 : ((zs.zip xs).mergeSort (W.dataLe false Prod.snd)).map Prod.snd = xs.mergeSort (W.dataLe false id) := by
          have e3 := W.sort_maps (r := W.dataLe false (Prod.snd : V × PyData → PyData)) (s := W.dataLe false id) Prod.snd (l := zs.zip xs) (fun _ _ _ _ => rfl)
          rw [e1] at e3
          exact e3
        rw [e2] at b2
        obtain ⟨ep', he'⟩ := PyProof.Rows.sortedAll_at s.heap its out.toArray
        have hl2 : (((zs.zip xs).mergeSort (W.dataLe false Prod.snd)).map Prod.fst).length ≤ sizeLine := by
          rw [List.length_map, List.length_mergeSort, List.length_zip, hlen, Nat.min_self, ← hlen]
          exact hzl
        exact ⟨.ref _, upd H (s.heap.objs.size + 1) (.lst (((zs.zip xs).mergeSort (W.dataLe false Prod.snd)).map Prod.fst)), I.laid (t' := s.toks) (fun _ _ => PyProof.Rows.sortedAll_old) (Nat.le_succ _)
          ⟨hl2, out, ep', b1, by simpa using he'⟩, rfl, hq _ _ (PR.lst lo b2 (I.hok.fresh (Nat.le_succ _)))⟩
    · cases ef
def tyName : Ty → String
  | .int => "int"
  | .bool => "bool"
  | .str => "str"
  | .tuple => "tuple"
  | .list => "list"
  | .none => "NoneType"
theorem cb_isa (t : Ty) : CallR X (.builtin "isinstance") (fun xs H Q => ∃ x, xs = [x, .ty (tyName t)] ∧ rPn X.K (bltD (.isa t)) [x] H Q) := by
  intro pins s σ H vs us Q I r ⟨x, e, O, ds, o, lo, h, ef, hq⟩
  subst e
  obtain ⟨u, w, rfl, rx, ry⟩ := vals2 r
  cases ry
  change bisaD t ds = some o at ef
  unfold bisaD at ef
  split at ef <;> try (cases ef; done)
  rename_i d
  split at ef
  · rename_i hp
    cases ef
    obtain ⟨z, ez, hz⟩ := h.one
    cases ez
    obtain ⟨as, hr⟩ := Inv.reads I hp hz rx
    have fin : ∀ tk, EP X pins σ Q (.bool (isaD t d)) { s with toks := tk } := fun tk => ⟨.bl _, H, I.tok tk, rfl, hq _ _ (PR.val (.bl _))⟩
    cases t with
    | int => exact W.isinstance_int_data hr fun tk _ => fin tk
    | bool => exact W.isinstance_bool_data hr fun tk _ => fin tk
    | str => exact W.isinstance_str_data hr fun tk _ => fin tk
    | tuple => exact W.isinstance_tuple_data hr fun tk _ => fin tk
    | list => exact W.isinstance_list_data hr fun tk _ => fin tk
    | none => exact W.isinstance_NoneType_data hr fun tk _ => fin tk
  · cases ef
end
end DM
set_option Elab.async false
set_option linter.all false
set_option maxRecDepth 100000
/-! DM6: expressions. -/
namespace DM
open PySem PySem.Spec PyProof.Rows L2
section
variable {G : GX} {W : WX} {K : PySem.W.Frag} {E E1 : Addr → Prop} {n n1 n2 n' : En} {σ : L2.St} {H H1 H2 H' : Hp} {o x y : Opd} {v u z : V}

/-- the end of an operation on values -/
theorem ER.fin (R : Rel K E1 n2 σ H2) (st : Step n σ H n2 σ H2) (hE : ∀ a, E a → E1 a) (pr : PR K (OE E1 n2 σ) H2 o z H') : ER K E n σ H o n2 z H' := by
  have nw : ∀ a, tmp o z a → H2 a = none := pr.new
  refine ⟨(R.weak hE).grow pr.same (fun a q => q.imp id (nw a)) fun a q hn => ?_, ?_, st.trans (Step.same pr.same), fun a q => ?_⟩
  · rcases q with q | q
    · obtain ⟨xs, e, mut0⟩ := R.ext a (hE a q)
      rw [e] at hn
      cases hn
    · obtain ⟨d, rfl⟩ := tmp_of_ne q
      obtain ⟨b, e, u, xs, ds, c, h, _⟩ := pr.od
      cases q
      cases e
      exact ⟨u, h, xs, ds, _, c⟩
  · have an : ∀ a, OE (orP E (tmp o z)) n2 σ a → orP (OE E1 n2 σ) (tmp o z) a := fun a q => by
      rcases q with (q | q) | q
      · exact .inl (.inl (hE a q))
      · exact .inr q
      · exact .inl (.inr q)
    have od := pr.od
    cases o with
    | v d => exact RV.anti an od
    | f d => exact let ⟨a, e, q⟩ := od; ⟨a, e, q.anti an⟩
    | s i => exact absurd od (by show ([] : L2.St)[i]? ≠ _; simp)
  · cases e : H a with
    | none => rfl
    | some w => exact absurd (nw a q) (st.tr a (by rw [e]; exact fun h => by cases h))
/-- from one step to the next -/
theorem ER.trans (a : ER K E n σ H x n1 v H1) (b : ER K (orP E (tmp x v)) n1 σ H1 y n2 u H2) : ER K E n σ H y n2 u H2 := by
  have an : ∀ c, orP E (tmp y u) c → orP (orP E (tmp x v)) (tmp y u) c := fun c q => q.imp .inl id
  refine ⟨b.rel.weak an, b.op.anti fun c q => q.imp (an c) id, a.step.trans b.step, fun c q => ?_⟩
  cases e : H c with
  | none => rfl
  | some w => exact absurd (b.new c q) (a.step.tr c (by rw [e]; exact fun h => by cases h))
theorem ER.up (h : ER K E n σ H x n1 v H1) : ∀ a, E a → orP E (tmp x v) a := fun _ q => .inl q
/-- the first operand behind the second one -/
theorem ER.first (a : ER K E n σ H x n1 v H1) (b : ER K (orP E (tmp x v)) n1 σ H1 y n2 u H2) : Od K H2 (OE (orP (orP E (tmp x v)) (tmp y u)) n2 σ) σ x v :=
  a.op.carry a.rel b.step (fun c q => q.imp id fun q => b.new c q) fun c q => .inr q
theorem post_rd {α : Type} {P : α → En → Prop} {f : PyData → M α} {E0 : Addr → Prop} {n0 : En} {H0 : Hp} (R : Rel K E n σ H) (h : Od K H (OE E n σ) σ o v) (p : Post G W E0 n0 σ H0 P (bnd (rd o) f n)) : ∃ d, RT K H (OE E n σ) v d ∧ Post G W E0 n0 σ H0 P (f d n) := by
  obtain ⟨d, n', e, q⟩ := Post.pure (post_bnd.mp p) fun _ _ _ => rd_noerr
  obtain ⟨rfl, r⟩ := rd_ok R h e
  exact ⟨d, r, q⟩
theorem post_rds {α : Type} {P : α → En → Prop} {f : List PyData → M α} {E0 : Addr → Prop} {n0 : En} {H0 : Hp} {os : List Opd} {vs : List V} (R : Rel K E n σ H) (h : Ods K H (OE E n σ) σ os vs) (p : Post G W E0 n0 σ H0 P (bnd (rds os) f n)) : ∃ ds, RTs K H (OE E n σ) vs ds ∧ Post G W E0 n0 σ H0 P (f ds n) := by
  obtain ⟨d, n', e, q⟩ := Post.pure (post_bnd.mp p) fun _ _ _ => rds_noerr
  obtain ⟨rfl, r⟩ := rds_ok R h e
  exact ⟨d, r, q⟩
theorem post_opt {α β : Type} {P : β → En → Prop} {w : Option α} {f : α → M β} {E0 : Addr → Prop} {n0 : En} {H0 : Hp} (p : Post G W E0 n0 σ H0 P (bnd (opt w) f n)) : ∃ a, w = some a ∧ Post G W E0 n0 σ H0 P (f a n) := by
  cases w with
  | none => exact p.elim
  | some a => exact ⟨a, rfl, p⟩
theorem post_opt1 {α : Type} {P : α → En → Prop} {w : Option α} {E0 : Addr → Prop} {n0 : En} {H0 : Hp} (p : Post G W E0 n0 σ H0 P (opt w n)) : ∃ a, w = some a ∧ P a n := by
  cases w with
  | none => exact p.elim
  | some a => exact ⟨a, rfl, p⟩
/-- two operands evaluated: what follows is to be shown behind -/
theorem tE_two {ma mb : M Opd} {k : Opd → Opd → M Opd} {Q : VK} {R : V → V → Hp → Prop} (h : tE G W (bnd ma fun x => bnd mb fun y => k x y) σ H Q)
    (hk : ∀ E n E2 n2 x y v u H2, Rel G.K E2 n2 σ H2 → Od G.K H2 (OE E2 n2 σ) σ x v → Od G.K H2 (OE E2 n2 σ) σ y u → (∀ a, tmp x v a ∨ tmp y u a → E2 a) → (∀ a, E a → E2 a) → Step n σ H n2 σ H2 → Post G W E n σ H (fun o n' => ∀ z H', ER G.K E n σ H o n' z H' → Q z H') (k x y n2) → R v u H2) :
    tE G W ma σ H fun v H1 => tE G W mb σ H1 fun u H2 => R v u H2 := by
  obtain ⟨E, n, R0, P⟩ := h
  refine ⟨E, n, R0, (post_bnd.mp P).mono fun x n1 _ P1 v H1 er1 => ?_⟩
  refine ⟨_, n1, er1.rel, (post_bnd.mp P1).imp (fun y n2 _ P2 u H2 er2 => ?_) fun c pl n' z => z.later er1.step er1.up⟩
  exact hk E n _ n2 x y v u H2 er2.rel (er1.first er2) er2.op (fun a q => q.elim (fun q => .inl (.inr q)) .inr) (fun a q => .inl (.inl q)) (er1.step.trans er2.step) P2
theorem tE_one {ma : M Opd} {k : Opd → M Opd} {Q : VK} {R : V → Hp → Prop} (h : tE G W (bnd ma k) σ H Q)
    (hk : ∀ E n E1 n1 x v H1, Rel G.K E1 n1 σ H1 → Od G.K H1 (OE E1 n1 σ) σ x v → (∀ a, E a → E1 a) → Step n σ H n1 σ H1 → (∀ a, tmp x v a → H a = none) → E1 = orP E (tmp x v) → Post G W E n σ H (fun o n' => ∀ z H', ER G.K E n σ H o n' z H' → Q z H') (k x n1) → R v H1) :
    tE G W ma σ H fun v H1 => R v H1 := by
  obtain ⟨E, n, R0, P⟩ := h
  refine ⟨E, n, R0, (post_bnd.mp P).mono fun x n1 _ P1 v H1 er1 => ?_⟩
  exact hk E n _ n1 x v H1 er1.rel er1.op er1.up er1.step er1.new rfl P1
end

section
variable {X : Cx} {G : GX} {W : WX} {a b c : Expr} {pos : Pos} {ma mb mc : M Opd}
/-- e's run is m -/
abbrev SE (X : Cx) (G : GX) (W : WX) (e : Expr) (m : M Opd) : Prop := PE X e (tE G W m)
abbrev ST (X : Cx) (G : GX) (W : WX) (e : Expr) (m : M Bool) : Prop := PT X e (tT G W m)
abbrev SA (X : Cx) (G : GX) (W : WX) (es : List Expr) (m : M (List Opd)) : Prop := PA X es (tA G W m)
theorem _root_.L2.PE.le {e : Expr} {t t' : TE} (h : PE X e t) (q : ∀ σ H Q, t' σ H Q → t σ H Q) : PE X e t' := ⟨fun pins s σ H Q I w => h.run pins s σ H Q I (q σ H Q w)⟩
theorem _root_.L2.PT.le {e : Expr} {t t' : TT} (h : PT X e t) (q : ∀ σ H Q, t' σ H Q → t σ H Q) : PT X e t' := ⟨fun pins s σ H Q I w => h.run pins s σ H Q I (q σ H Q w)⟩
theorem _root_.L2.PA.le {es : List Expr} {t t' : TA} (h : PA X es t) (q : ∀ σ H Q, t' σ H Q → t σ H Q) : PA X es t' := ⟨fun pos pins s σ H Q I w => h.run pos pins s σ H Q I (q σ H Q w)⟩

theorem se_var {cf : Cf} {i : Nat} {x : Str} (hN : X.N[i]? = some x) (hv : Vis X.env.scope x) (hd : (x == ("__debug__" : Str)) = false) (hcd : (x == ("__classdict__" : Str)) = false) : SE X G W (.Name x pos) (ev cf (.var i)) := by
  refine (pe_var (pos := pos) hN hv hd hcd).le fun σ H Q ⟨E, n, R, P⟩ => ?_
  simp only [ev] at P
  split at P
  · rename_i d hs
    obtain ⟨v, e, r⟩ := R.val i d hs
    exact ⟨v, e, P v H ⟨R.weak fun a q => q.elim id False.elim, RV.anti (fun a q => q.imp (fun q => q.elim id False.elim) id) r, .refl, fun _ q => q.elim⟩⟩
  · rename_i l p d hs
    obtain ⟨w, e, _, _⟩ := R.own i l p d hs
    exact ⟨.ref w, e, P (.ref w) H ⟨R.weak fun a q => q.elim id False.elim, e, .refl, fun _ q => q.elim⟩⟩
  · exact P.elim
theorem tE_ret {d : PyData} {w : V} {σ : L2.St} {H : Hp} {Q : VK} (hw : ∀ K O, RV K H O w d) (h : tE G W (ret (.v d)) σ H Q) : Q w H := by
  obtain ⟨E, n, R, P⟩ := h
  exact P w H ⟨R.weak fun a q => q.elim id False.elim, hw _ _, .refl, fun _ q => q.elim⟩
theorem se_int {cf : Cf} {i : Int} {k : Nat} : SE X G W (.Constant (.int i) k pos) (ev cf (.con (.int i))) := pe_int.le fun σ H Q h => tE_ret (fun _ _ => .int i) h
theorem se_bool {cf : Cf} {i : Bool} {k : Nat} : SE X G W (.Constant (.bool i) k pos) (ev cf (.con (.bool i))) := pe_bl.le fun σ H Q h => tE_ret (fun _ _ => .bl i) h
theorem se_none {cf : Cf} {k : Nat} : SE X G W (.Constant .none k pos) (ev cf (.con .none)) := pe_non.le fun σ H Q h => tE_ret (fun _ _ => .non) h
theorem se_str {cf : Cf} {x : Str} {k : Nat} : SE X G W (.Constant (.str x) k pos) (ev cf (.con (.str x))) := pe_str.le fun σ H Q h => tE_ret (fun _ _ => .str x) h
/-- two operands, an operation on values -/
theorem tE_op (hK : X.K = G.K) {f : PyData → PyData → Option Opd} {σ : L2.St} {H : Hp} {Q : VK} (h : tE G W (bnd ma fun x => bnd mb fun y => bnd (rd x) fun d => bnd (rd y) fun e => opt (f d e)) σ H Q) : tOp (rP2 X.K f) (tE G W ma) (tE G W mb) σ H Q := by
  refine tE_two h fun E n E2 n2 x y v u H2 R ox oy hm hE st P => ?_
  obtain ⟨d, rd1, P⟩ := post_rd R ox P
  obtain ⟨e, rd2, P⟩ := post_rd R oy P
  obtain ⟨o, eo, P⟩ := post_opt1 P
  rw [hK]
  exact ⟨OE E2 n2 σ, d, e, o, R.lo, rd1, rd2, eo, fun z H' pr => P z H' (ER.fin R st hE pr)⟩
theorem se_bin {cf : Cf} {op : Operator} {ca cb : Ex} (hK : X.K = G.K) (ha : SE X G W a (ev cf ca)) (hb : SE X G W b (ev cf cb)) : SE X G W (.BinOp a op b pos) (ev cf (.bin op ca cb)) :=
  (pe_op (op_bin op) ha hb).le fun σ H Q h => tE_op hK h
theorem cmp_form {f : PyData → PyData → Option Bool} : (bnd ma fun x => bnd mb fun y => bnd (rd x) fun d => bnd (rd y) fun e => bnd (opt (f d e)) fun t => ret (.v (.bool t)))
    = (bnd ma fun x => bnd mb fun y => bnd (rd x) fun d => bnd (rd y) fun e => opt ((f d e).map fun b => Opd.v (.bool b))) := by
  have e : ∀ w : Option Bool, (bnd (opt w) fun t => ret (Opd.v (.bool t))) = opt (w.map fun b => Opd.v (.bool b)) := fun w => by
    cases w <;> rfl
  simp only [e]
theorem se_cmp {cf : Cf} {op : CmpOp} {ca cb : Ex} (hK : X.K = G.K) (hu : X.A.units + 64 < cLine) (ha : SE X G W a (ev cf ca)) (hb : SE X G W b (ev cf cb)) (hm : behindInMarks op b = false) : SE X G W (.Compare a [op] [b] pos) (ev cf (.cmp op ca cb)) :=
  (pe_cmpR (op_cmp hu op) ha hb hm).le fun σ H Q h => tE_op hK (by rw [← cmp_form]; exact h)
theorem se_idx {cf : Cf} {ca cb : Ex} (hK : X.K = G.K) (hu : X.A.units + 64 < cLine) (ha : SE X G W a (ev cf ca)) (hb : SE X G W b (ev cf cb)) (hs : PlainIx b) : SE X G W (.Subscript a b pos) (ev cf (.idx ca cb)) := by
  refine (pe_ix (ix_any hu) ha hb hs).le fun σ H Q h => tE_op hK ?_
  have e : ∀ w : Option PyData, (bnd (opt w) fun g => ret (Opd.v g)) = opt (w.map Opd.v) := fun w => by cases w <;> rfl
  simp only [ev, e] at h
  exact h
/-- -a -/
theorem se_neg {cf : Cf} {ca : Ex} (hK : X.K = G.K) (ha : SE X G W a (ev cf ca)) : SE X G W (.UnaryOp .USub a pos) (ev cf (.neg ca)) := by
  refine (pe_un un_neg ha).le fun σ H Q h => ?_
  refine tE_one h fun E n E1 n1 x v H1 R ox hE st hn _ P => ?_
  obtain ⟨d, rd1, P⟩ := post_rd R ox P
  cases d with
  | int i =>
    cases rd1.int
    exact ⟨i, rfl, P _ _ (ER.fin R st hE (PR.val (.int _)))⟩
  | _ => exact P.elim
/-! ### truth -/
theorem tru_rt {K : PySem.W.Frag} {H : Hp} {O : Addr → Prop} {v : V} {d : PyData} {b : Bool} (h : RT K H O v d) (e : tru d = some b) : TruV K v H b := by
  cases d with
  | none => cases h.non; cases e; exact rfl
  | bool k => cases h.bl; cases e; exact rfl
  | int k => cases h.int; cases e; exact rfl
  | str k =>
    cases h.str
    simp only [tru] at e
    split at e
    · rename_i hl
      cases e
      refine ⟨hl, ?_⟩
      by_cases h0 : k.length = 0
      · rw [h0]; rfl
      · have h1 : ((k.length : Int) != 0) = true := by simpa using h0
        rw [h1]
        simpa using h0
    · cases e
  | list k =>
    obtain ⟨a, xs, rfl, h1, h2⟩ := h.list
    cases e
    refine .inl ⟨xs, .inl (.inl h1), ?_⟩
    cases h2 <;> rfl
  | tuple k =>
    obtain ⟨a, xs, rfl, h1, h2⟩ := h.tup
    cases e
    refine .inr (.inl ⟨xs, h1.sqT, ?_⟩)
    cases h2 <;> rfl
  | dict k => cases e
theorem post_tru {K : PySem.W.Frag} {α : Type} {P : α → En → Prop} {f : Bool → M α} {E E0 : Addr → Prop} {n n0 : En} {σ : L2.St} {H H0 : Hp} {o : Opd} {v : V} (R : Rel K E n σ H) (h : Od K H (OE E n σ) σ o v) (p : Post G W E0 n0 σ H0 P (bnd (truM o) f n)) : ∃ t, TruV K v H t ∧ Post G W E0 n0 σ H0 P (f t n) := by
  have p' : Post G W E0 n0 σ H0 P (bnd (rd o) (fun d => bnd (opt (tru d)) f) n) := by
    have e : bnd (truM o) f n = bnd (rd o) (fun d => bnd (opt (tru d)) f) n := by
      unfold truM bnd
      cases rd o n <;> rfl
    rw [← e]
    exact p
  obtain ⟨d, r, p'⟩ := post_rd R h p'
  obtain ⟨t, e, p'⟩ := post_opt p'
  exact ⟨t, tru_rt r e, p'⟩
theorem se_not {cf : Cf} {ca : Ex} (hK : X.K = G.K) (ha : SE X G W a (ev cf ca)) : SE X G W (.UnaryOp .Not a pos) (ev cf (.not ca)) := by
  refine (pe_notT ha).le fun σ H Q h => ?_
  refine tE_one h fun E n E1 n1 x v H1 R ox hE st hn _ P => ?_
  obtain ⟨t, e, P⟩ := post_tru R ox P
  rw [hK]
  exact ⟨t, e, P _ _ (ER.fin R st hE (PR.val (.bl _)))⟩
theorem se_one {op : BoolOp} (ha : SE X G W a ma) : SE X G W (.BoolOp op [a] pos) ma := pe_one ha
theorem se_and {cf : Cf} {ca cb : Ex} {rest : List Expr} (hK : X.K = G.K) (ha : SE X G W a (ev cf ca)) (hb : SE X G W (.BoolOp .And (b :: rest) pos) (ev cf cb)) : SE X G W (.BoolOp .And (a :: b :: rest) pos) (ev cf (.and ca cb)) := by
  refine (pe_andT ha hb).le fun σ H Q ⟨E, n, R, P⟩ => ?_
  refine ⟨E, n, R, (post_bnd.mp P).mono fun x n1 _ P1 v H1 er => ?_⟩
  obtain ⟨t, e, P1⟩ := post_tru er.rel er.op P1
  rw [hK]
  refine ⟨t, e, ?_⟩
  cases t with
  | true =>
    rw [if_pos rfl] at P1 ⊢
    exact ⟨_, n1, er.rel, P1.imp (fun o n2 _ q z H2 er2 => q z H2 (er.trans er2)) fun c pl n' z => z.later er.step er.up⟩
  | false =>
    rw [if_neg Bool.false_ne_true] at P1 ⊢
    exact P1 _ _ er
theorem se_or {cf : Cf} {ca cb : Ex} {rest : List Expr} (hK : X.K = G.K) (ha : SE X G W a (ev cf ca)) (hb : SE X G W (.BoolOp .Or (b :: rest) pos) (ev cf cb)) : SE X G W (.BoolOp .Or (a :: b :: rest) pos) (ev cf (.or ca cb)) := by
  refine (pe_orT ha hb).le fun σ H Q ⟨E, n, R, P⟩ => ?_
  refine ⟨E, n, R, (post_bnd.mp P).mono fun x n1 _ P1 v H1 er => ?_⟩
  obtain ⟨t, e, P1⟩ := post_tru er.rel er.op P1
  rw [hK]
  refine ⟨t, e, ?_⟩
  cases t with
  | true =>
    rw [if_pos rfl] at P1 ⊢
    exact P1 _ _ er
  | false =>
    rw [if_neg Bool.false_ne_true] at P1 ⊢
    exact ⟨_, n1, er.rel, P1.imp (fun o n2 _ q z H2 er2 => q z H2 (er.trans er2)) fun c pl n' z => z.later er.step er.up⟩
end
end DM
set_option Elab.async false
set_option linter.all false
set_option maxRecDepth 100000
/-! DM7: tests, chains, displays, arguments, slices, built-ins called. -/
namespace DM
open PySem PySem.Spec PyProof.Rows L2
section
variable {X : Cx} {G : GX} {W : WX} {a b c : Expr} {es : List Expr} {pos : Pos} {ma mb mc : M Opd} {cf : Cf} {ca cb cc : Ex}

/-! ### tests -/
theorem truM_same {o : Opd} {n n' : En} {t : Bool} (e : truM o n = .ok t n') : n' = n := by
  obtain ⟨d, n1, e1, e⟩ := bnd_ok e
  have h1 : n1 = n := by
    cases o with
    | v d => cases e1; rfl
    | f d => cases e1; rfl
    | s i =>
      simp only [rd] at e1
      split at e1 <;> first | (cases e1; rfl) | cases e1
  cases h : tru d with
  | none => rw [h] at e; cases e
  | some k => rw [h] at e; cases e; exact h1
theorem truM_noerr {o : Opd} {n n' : En} {c : Nat} {pl : PyData} : truM o n ≠ .err c pl n' := fun e => by
  rcases bnd_err e with e | ⟨d, n1, _, e⟩
  · exact rd_noerr e
  · cases h : tru d <;> (rw [h] at e; cases e)
/-- a test of any expression -/
theorem st_of {m : M Opd} (hK : X.K = G.K) (ha : SE X G W a m) (he : ∀ whole, isTrue a X.env whole = (do let v ← whole; standAt a.pos; holding [v] (truthy v))) : ST X G W a (bnd m truM) := by
  refine (pt_truth ha he).le fun σ H Q ⟨E, n, R, P⟩ => ?_
  refine ⟨E, n, R, (post_bnd.mp P).mono fun x n1 _ P1 v H1 er => ?_⟩
  have P2 : Post G W E n σ H (fun b n' => ∀ H', Rel G.K E n' σ H' → Step n σ H n' σ H' → Q b H') (bnd (truM x) ret n1) := by
    have e : bnd (truM x) ret n1 = truM x n1 := by unfold bnd; cases truM x n1 <;> rfl
    rw [e]
    exact P1
  obtain ⟨t, e, P3⟩ := post_tru er.rel er.op P2
  rw [hK]
  exact ⟨t, e, P3 H1 (er.rel.weak er.up) er.step⟩
theorem tst_of {m : M Opd} {tt : TT} (h : PT X a tt) (hq : ∀ σ H Q, tT G W (bnd m truM) σ H Q → tt σ H Q) : ST X G W a (bnd m truM) := h.le hq
/-- a test told by an expression's run that is a bool -/
theorem tT_bool {f : PyData → PyData → Option Bool} {σ : L2.St} {H : Hp} {Q : Bool → Hp → Prop} (hK : X.K = G.K)
    (h : tT G W (bnd (bnd ma fun x => bnd mb fun y => bnd (rd x) fun d => bnd (rd y) fun e => bnd (opt (f d e)) fun t => ret (.v (.bool t))) truM) σ H Q) :
    tTest (tOp (rP2 X.K fun d e => (f d e).map fun b => Opd.v (.bool b)) (tE G W ma) (tE G W mb)) σ H Q := by
  obtain ⟨E, n, R, P⟩ := h
  refine tE_op hK (Q := fun x H' => ∃ k, x = .bl k ∧ Q k H') ?_
  rw [← cmp_form]
  refine ⟨E, n, R, (post_bnd.mp P).mono fun x n1 ex P1 v H1 er => ?_⟩
  have hx : ∃ t, x = .v (.bool t) := by
    obtain ⟨x1, m1, _, e⟩ := bnd_ok ex
    obtain ⟨x2, m2, _, e⟩ := bnd_ok e
    obtain ⟨x3, m3, _, e⟩ := bnd_ok e
    obtain ⟨x4, m4, _, e⟩ := bnd_ok e
    obtain ⟨x5, m5, _, e⟩ := bnd_ok e
    cases e
    exact ⟨x5, rfl⟩
  obtain ⟨t, rfl⟩ := hx
  have ev : v = .bl t := by
    have := er.op
    cases (show RV _ _ _ v (.bool t) from this).b
    rfl
  exact ⟨t, ev, P1 H1 (er.rel.weak er.up) er.step⟩
theorem st_cmp {op : CmpOp} (hK : X.K = G.K) (hu : X.A.units + 64 < cLine) (ha : SE X G W a (ev cf ca)) (hb : SE X G W b (ev cf cb)) (hm : behindInMarks op b = false) : ST X G W (.Compare a [op] [b] pos) (bnd (ev cf (.cmp op ca cb)) truM) :=
  (pt_cmpR (op_cmp hu op) ha hb hm).le fun σ H Q h => tT_bool hK h
theorem st_not (ha : ST X G W a (bnd (ev cf ca) truM)) : ST X G W (.UnaryOp .Not a pos) (bnd (ev cf (.not ca)) truM) := by
  refine (pt_not ha).le fun σ H Q ⟨E, n, R, P⟩ => ?_
  refine ⟨E, n, R, ?_⟩
  have e : bnd (ev cf (.not ca)) truM n = bnd (bnd (ev cf ca) truM) (fun b => ret (!b)) n := by
    show bnd (bnd (ev cf ca) fun x => bnd (truM x) fun b => ret (.v (.bool !b))) truM n = _
    unfold bnd
    cases ev cf ca n with
    | ok x n1 =>
      dsimp only
      cases truM x n1 <;> rfl
    | err c pl n1 => rfl
    | bad => rfl
  rw [e] at P
  exact (post_bnd.mp P).mono fun t n1 _ P1 H1 r s => P1 H1 r s
/-- .. whatever its 'whole' is -/
abbrev SW (X : Cx) (G : GX) (W : WX) (e : Expr) (m : M Bool) : Prop := PW X e (tT G W m)
theorem _root_.L2.PW.le {e : Expr} {t t' : TT} (h : PW X e t) (q : ∀ σ H Q, t' σ H Q → t σ H Q) : PW X e t' := ⟨fun wh pins s σ H Q I w => h.run wh pins s σ H Q I (q σ H Q w)⟩
theorem sw_and1 (ha : ST X G W a (bnd (ev cf ca) truM)) : SW X G W (.BoolOp .And [a] pos) (bnd (ev cf ca) truM) := pw_and1 ha
theorem sw_or1 (ha : ST X G W a (bnd (ev cf ca) truM)) : SW X G W (.BoolOp .Or [a] pos) (bnd (ev cf ca) truM) := pw_or1 ha
theorem and_form (n : En) : bnd (ev cf (.and ca cb)) truM n = bnd (bnd (ev cf ca) truM) (fun t => if t then bnd (ev cf cb) truM else ret false) n := by
  show bnd (bnd (ev cf ca) fun x => bnd (truM x) fun t => if t then ev cf cb else ret x) truM n = _
  unfold bnd
  cases ev cf ca n with
  | ok x n1 =>
    dsimp only
    cases h : truM x n1 with
    | ok t n2 =>
      have e := truM_same h
      subst e
      cases t with
      | true => rfl
      | false =>
        show truM x n2 = _
        rw [h]
        rfl
    | err c pl n2 => rfl
    | bad => rfl
  | err c pl n1 => rfl
  | bad => rfl
theorem or_form (n : En) : bnd (ev cf (.or ca cb)) truM n = bnd (bnd (ev cf ca) truM) (fun t => if t then ret true else bnd (ev cf cb) truM) n := by
  show bnd (bnd (ev cf ca) fun x => bnd (truM x) fun t => if t then ret x else ev cf cb) truM n = _
  unfold bnd
  cases ev cf ca n with
  | ok x n1 =>
    dsimp only
    cases h : truM x n1 with
    | ok t n2 =>
      have e := truM_same h
      subst e
      cases t with
      | false => rfl
      | true =>
        show truM x n2 = _
        rw [h]
        rfl
    | err c pl n2 => rfl
    | bad => rfl
  | err c pl n1 => rfl
  | bad => rfl
theorem tT_then {m : M Bool} {k : Bool → M Bool} {σ : L2.St} {H : Hp} {Q : Bool → Hp → Prop} (h : tT G W (bnd m k) σ H Q) : tT G W m σ H fun t H1 => tT G W (k t) σ H1 Q := by
  obtain ⟨E, n, R, P⟩ := h
  exact ⟨E, n, R, (post_bnd.mp P).mono fun t n1 _ P1 H1 r s => ⟨E, n1, r, P1.imp (fun b n2 _ q H2 r2 s2 => q H2 r2 (s.trans s2)) fun c pl n' z => z.later s fun _ q => q⟩⟩
theorem tT_ret {t : Bool} {σ : L2.St} {H : Hp} {Q : Bool → Hp → Prop} (h : tT G W (ret t) σ H Q) : Q t H := by
  obtain ⟨E, n, R, P⟩ := h
  exact P H R .refl
theorem tT_eq {m m' : M Bool} {σ : L2.St} {H : Hp} {Q : Bool → Hp → Prop} (e : ∀ n, m n = m' n) (h : tT G W m σ H Q) : tT G W m' σ H Q := by
  rw [show m' = m from funext fun n => (e n).symm]
  exact h
theorem sw_and {rest : List Expr} (ha : ST X G W a (bnd (ev cf ca) truM)) (hb : SW X G W (.BoolOp .And (b :: rest) pos) (bnd (ev cf cb) truM)) : SW X G W (.BoolOp .And (a :: b :: rest) pos) (bnd (ev cf (.and ca cb)) truM) := by
  refine (pw_and ha hb).le fun σ H Q h => ?_
  have h1 := tT_then (tT_eq and_form h)
  obtain ⟨E, n, R, P⟩ := h1
  refine ⟨E, n, R, P.mono fun t n1 _ P1 H1 r s => ?_⟩
  have q := P1 H1 r s
  cases t with
  | true => exact iteT q
  | false => exact iteF (tT_ret q)
theorem sw_or {rest : List Expr} (ha : ST X G W a (bnd (ev cf ca) truM)) (hb : SW X G W (.BoolOp .Or (b :: rest) pos) (bnd (ev cf cb) truM)) : SW X G W (.BoolOp .Or (a :: b :: rest) pos) (bnd (ev cf (.or ca cb)) truM) := by
  refine (pw_or ha hb).le fun σ H Q h => ?_
  have h1 := tT_then (tT_eq or_form h)
  obtain ⟨E, n, R, P⟩ := h1
  refine ⟨E, n, R, P.mono fun t n1 _ P1 H1 r s => ?_⟩
  have q := P1 H1 r s
  cases t with
  | true => exact iteT (tT_ret q)
  | false => exact iteF q
/-- a if c else b -/
theorem ife_form (n : En) : ev cf (.ife cc ca cb) n = bnd (bnd (ev cf cc) truM) (fun t => if t then ev cf ca else ev cf cb) n := by
  show bnd (ev cf cc) (fun x => bnd (truM x) fun t => if t then ev cf ca else ev cf cb) n = _
  unfold bnd
  cases ev cf cc n with
  | ok x n1 => rfl
  | err c pl n1 => rfl
  | bad => rfl
theorem se_ife (hc : ST X G W c (bnd (ev cf cc) truM)) (ha : SE X G W a (ev cf ca)) (hb : SE X G W b (ev cf cb)) : SE X G W (.IfExp c a b pos) (ev cf (.ife cc ca cb)) := by
  refine (pe_ifExp hc ha hb).le fun σ H Q ⟨E, n, R, P⟩ => ?_
  rw [ife_form] at P
  refine ⟨E, n, R, (post_bnd.mp P).mono fun t n1 _ P1 H1 r s => ?_⟩
  cases t with
  | true =>
    rw [if_pos rfl] at P1 ⊢
    exact ⟨E, n1, r, P1.imp (fun o n2 _ q z H2 er => q z H2 ⟨er.rel, er.op, s.trans er.step, fun a q => by
      cases e : H a with
      | none => rfl
      | some w => exact absurd (er.new a q) (s.tr a (by rw [e]; exact fun h => by cases h))⟩) fun c pl n' z => z.later s fun _ q => q⟩
  | false =>
    rw [if_neg Bool.false_ne_true] at P1 ⊢
    exact ⟨E, n1, r, P1.imp (fun o n2 _ q z H2 er => q z H2 ⟨er.rel, er.op, s.trans er.step, fun a q => by
      cases e : H a with
      | none => rfl
      | some w => exact absurd (er.new a q) (s.tr a (by rw [e]; exact fun h => by cases h))⟩) fun c pl n' z => z.later s fun _ q => q⟩

/-! ### arguments -/
theorem sa_nil : SA X G W [] (evs cf .nil) := by
  refine pa_nil.le fun σ H Q ⟨E, n, R, P⟩ => ?_
  exact P [] H ⟨R.weak fun a q => q.elim id False.elim, .nil, .refl, fun _ q => q.elim, trivial⟩
theorem sa_cons (ha : SE X G W a (ev cf ca)) (hr : SA X G W es (evs cf cb)) (hs : starEach (a :: es) X.env = (false, eval a X.env) :: starEach es X.env) : SA X G W (a :: es) (evs cf (.cons ca cb)) := by
  refine (pa_cons ha hr hs).le fun σ H Q ⟨E, n, R, P⟩ => ?_
  refine ⟨E, n, R, (post_bnd.mp P).mono fun o n1 _ P1 v H1 er => ?_⟩
  refine ⟨_, n1, er.rel, (post_bnd.mp P1).imp (fun os n2 _ P2 vs H2 ar => P2 (v :: vs) H2 ?_) fun c pl n' z => z.later er.step er.up⟩
  have an : ∀ q, orP E (tmps (o :: os) (v :: vs)) q → orP (orP E (tmp o v)) (tmps os vs) q := fun q z => by
    rcases z with z | z | z
    · exact .inl (.inl z)
    · exact .inl (.inr z)
    · exact .inr z
  refine ⟨ar.rel.weak an, .cons ((er.op.carry er.rel ar.step (fun q z => z.imp id fun z => ar.new q z) fun q z => .inr z).anti fun q z => z.imp (an q) id) (ar.ops.anti fun q z => z.imp (an q) id), er.step.trans ar.step, fun q z => ?_, fun q z z2 => ?_, ar.ap⟩
  · rcases z with z | z
    · exact er.new q z
    · cases e : H q with
      | none => rfl
      | some w => exact absurd (ar.new q z) (er.step.tr q (by rw [e]; exact fun h => by cases h))
  · obtain ⟨xs, e, mut0⟩ := er.rel.ext q (.inr z)
    rw [ar.new q z2] at e
    cases e
/-- kept for good -/
theorem post_keepsB {α : Type} {P : α → En → Prop} {f : List PyData → M α} {E Eb : Addr → Prop} {n n0 nb : En} {H H0 Hb : Hp} {σ : L2.St} {os : List Opd} {vs : List V} (ar : AR G.K E n0 σ H0 os n vs H) (R0 : Rel G.K E n0 σ H0)
    (p : Post G W Eb nb σ Hb P (bnd (keeps os) f n)) : ∃ ds n1, Rel G.K E n1 σ H ∧ RVs G.K H (OE E n1 σ) vs ds ∧ Step n0 σ H0 n1 σ H ∧ Post G W Eb nb σ Hb P (f ds n1) := by
  obtain ⟨ds, n1, e, q⟩ := Post.pure (post_bnd.mp p) fun _ _ _ => keeps_noerr
  obtain ⟨r1, r2, r3, _⟩ := keeps_ok ar.rel ar.ops ar.ap (fun a z ze => by
    obtain ⟨xs, e, mut0⟩ := R0.ext a ze
    rw [ar.new a z] at e
    cases e) e
  exact ⟨ds, n1, r1, r2, ar.step.trans r3, q⟩
theorem post_keeps {α : Type} {P : α → En → Prop} {f : List PyData → M α} {E : Addr → Prop} {n n0 : En} {H H0 : Hp} {σ : L2.St} {os : List Opd} {vs : List V} (ar : AR G.K E n0 σ H0 os n vs H) (R0 : Rel G.K E n0 σ H0)
    (p : Post G W E n0 σ H0 P (bnd (keeps os) f n)) : ∃ ds n1, Rel G.K E n1 σ H ∧ RVs G.K H (OE E n1 σ) vs ds ∧ Step n0 σ H0 n1 σ H ∧ Post G W E n0 σ H0 P (f ds n1) := post_keepsB ar R0 p
theorem PR.fin0 {K : PySem.W.Frag} {E : Addr → Prop} {n n1 : En} {σ : L2.St} {H H1 H' : Hp} {o : Opd} {z : V} (r : Rel K E n1 σ H1) (s : Step n σ H n1 σ H1) (pr : PR K (OE E n1 σ) H1 o z H') : ER K E n σ H o n1 z H' := ER.fin r s (fun _ q => q) pr
theorem se_tup {k : Nat} (h : SA X G W es (evs cf ca)) : SE X G W (.Tuple es k pos) (ev cf (.tup ca)) := by
  refine (pe_tupT h).le fun σ H Q ⟨E, n, R, P⟩ => ?_
  refine ⟨E, n, R, (post_bnd.mp P).mono fun os n1 _ P1 vs H1 ar => ?_⟩
  obtain ⟨ds, n2, r, rv, s, P2⟩ := post_keeps ar R P1
  split at P2
  · rename_i hl
    exact ⟨by rw [rv.length]; exact hl, PR.newT r.lo rv fun z H' pr => P2 z H' (PR.fin0 r s pr)⟩
  · exact P2.elim
theorem se_lst (h : SA X G W es (evs cf ca)) : SE X G W (.List es pos) (ev cf (.lst ca)) := by
  refine (pe_lst h).le fun σ H Q ⟨E, n, R, P⟩ => ?_
  refine ⟨E, n, R, (post_bnd.mp P).mono fun os n1 _ P1 vs H1 ar => ?_⟩
  obtain ⟨ds, n2, r, rv, s, P2⟩ := post_keeps ar R P1
  split at P2
  · rename_i hl
    exact ⟨by rw [rv.length]; exact hl, fun p hp => P2 _ _ (PR.fin0 r s (PR.lst r.lo rv hp))⟩
  · exact P2.elim
/-! ### built-ins called -/
theorem AR.up {K : PySem.W.Frag} {E : Addr → Prop} {n n1 : En} {σ : L2.St} {H H1 : Hp} {os : List Opd} {vs : List V} (h : AR K E n σ H os n1 vs H1) : ∀ a, E a → orP E (tmps os vs) a := fun _ q => .inl q
theorem tA_blt {b : Bf} (hK : X.K = G.K) {σ : L2.St} {H : Hp} {Q : VK} (h : tE G W (ev cf (.blt b ca)) σ H Q) : tCB (rPn X.K (bltD b)) (tA G W (evs cf ca)) σ H Q := by
  obtain ⟨E, n, R, P⟩ := h
  refine ⟨E, n, R, (post_bnd.mp P).mono fun os n1 _ P1 vs H1 ar => ?_⟩
  obtain ⟨ds, rs, P2⟩ := post_rds ar.rel ar.ops P1
  obtain ⟨o, eo, P3⟩ := post_opt1 P2
  rw [hK]
  exact ⟨_, ds, o, ar.rel.lo, rs, eo, fun z H' pr => P3 z H' (ER.fin ar.rel ar.step ar.up pr)⟩
/-- the name of a built-in function in a call -/
structure BOk (X : Cx) (x : Str) (u : Value) : Prop where
  gl : Gl X x
  no : X.mg x = none
  boot : bootBuiltins x = some u
  nn : x ≠ "__name__"
  nd : (x == ("__debug__" : Str)) = false
/-- no star among the arguments -/
def Plain (X : Cx) (e : Expr) (es : List Expr) (pos : Pos) : Prop := starEach (e :: es) X.env = (false, eval e X.env) :: starEach es X.env ∧ (backTo pos (starEach es X.env)).any (·.1) = false
theorem se_callB {b : Bf} {x : Str} {id : String} {p : Pos} (hK : X.K = G.K) (hb : BOk X x (.builtin id)) (hc : CallR X (.builtin id) (rPn X.K (bltD b))) (h : SA X G W (a :: es) (evs cf ca)) (hp : Plain X a es pos) : SE X G W (.Call (.Name x p) (a :: es) [] pos) (ev cf (.blt b ca)) :=
  (pe_callB hc hb.gl hb.no hb.boot h hb.nn hb.nd hp.1 hp.2).le fun σ H Q h => tA_blt hK h
theorem se_callTy {b : Bf} {x : Str} {T : String} {p : Pos} (hK : X.K = G.K) (hb : BOk X x (.type T)) (hc : CallR X (.type T) (rPn X.K (bltD b))) (h : SA X G W (a :: es) (evs cf ca)) (hp : Plain X a es pos) : SE X G W (.Call (.Name x p) (a :: es) [] pos) (ev cf (.blt b ca)) :=
  (pe_callTy hc hb.gl hb.no hb.boot h hb.nn hb.nd hp.1 hp.2).le fun σ H Q h => tA_blt hK h
/-- isinstance(a, T) -/
theorem se_isa {t : Ty} {x y : Str} {p p2 : Pos} (hK : X.K = G.K) (hb : BOk X x (.builtin "isinstance")) (hy : BOk X y (.type (tyName t))) (ha : SE X G W a (ev cf ca)) (hp : Plain X a [.Name y p2] pos) (hs : starEach [.Name y p2] X.env = (false, eval (.Name y p2) X.env) :: starEach [] X.env) :
    SE X G W (.Call (.Name x p) [a, .Name y p2] [] pos) (ev cf (.blt (.isa t) (.cons ca .nil))) := by
  refine (pe_callB (cb_isa t) hb.gl hb.no hb.boot (pa_cons ha (pa_cons (pe_bltn (v := .ty (tyName t)) hy.gl hy.no hy.boot rfl hy.nn hy.nd) pa_nil hs) hp.1) hb.nn hb.nd hp.1 hp.2).le fun σ H Q h => ?_
  have h2 := tA_blt hK h
  obtain ⟨E, n, R, P⟩ := h2
  refine ⟨E, n, R, (post_bnd.mp P).mono fun o n1 _ P1 v H1 er => ?_⟩
  have P2 : Post G W E n σ H (fun os n' => ∀ vs H', AR G.K E n σ H os n' vs H' → rPn X.K (bltD (.isa t)) vs H' Q) (.ok [o] n1) := P1
  have an : ∀ q, orP E (tmps [o] [v]) q → orP E (tmp o v) q := fun q z => by
    rcases z with z | z | z
    · exact .inl z
    · exact .inr z
    · exact z.elim
  exact ⟨v, rfl, P2 [v] H1 ⟨er.rel.weak an, .cons (er.op.anti fun q z => z.imp (an q) id) .nil, er.step, fun q z => z.elim (er.new q) False.elim, ⟨fun _ _ z => z, trivial⟩⟩⟩
/-! ### chains of two comparisons -/
theorem chain_form (n : En) {op op' : CmpOp} : ev cf (.cmp2 op op' ca cb cc) n = bnd (ev cf ca) (fun x => bnd (ev cf cb) fun y => bnd (rd x) fun d => bnd (rd y) fun e => bnd (opt (cmpD op d e)) fun t =>
      if t then bnd (ev cf cc) fun z => bnd (rd y) fun e => bnd (rd z) fun g => bnd (opt (cmpD op' e g)) fun t => ret (.v (.bool t)) else ret (.v (.bool false))) n := rfl
theorem tE_chain {op op' : CmpOp} (hK : X.K = G.K) {σ : L2.St} {H : Hp} {Q : VK} (h : tE G W (ev cf (.cmp2 op op' ca cb cc)) σ H Q) :
    tChain (rP2 X.K fun d e => (cmpD op d e).map fun b => .v (.bool b)) (rP2 X.K fun d e => (cmpD op' d e).map fun b => .v (.bool b)) (tE G W (ev cf ca)) (tE G W (ev cf cb)) (tE G W (ev cf cc)) σ H Q := by
  refine tE_two h fun E n E2 n2 x y v u H2 R ox oy hm hE st P => ?_
  obtain ⟨d, rd1, P⟩ := post_rd R ox P
  obtain ⟨e, rd2, P⟩ := post_rd R oy P
  obtain ⟨t, eo, P⟩ := post_opt P
  rw [hK]
  refine ⟨OE E2 n2 σ, d, e, .v (.bool t), R.lo, rd1, rd2, by dsimp only; rw [eo]; rfl, fun z H3 pr => ?_⟩
  have ez : z = .bl t := by
    have := pr.od
    cases (show RV _ _ _ z (.bool t) from this).b
    rfl
  have R3 : Rel G.K E2 n2 σ H3 := R.grow pr.same (fun a q => .inl q) fun a q hn => by
    obtain ⟨xs, e, mut0⟩ := R.ext a q
    rw [e] at hn
    cases hn
  have st3 : Step n σ H n2 σ H3 := st.trans (Step.same pr.same)
  have oy3 : Od G.K H3 (OE E2 n2 σ) σ y u := by
    have p := R.pres (E' := E2) (Step.same pr.same : Step n2 σ H2 n2 σ H3) (fun a q => .inl q)
    cases y with
    | v d => exact RV.pres R.lo p oy
    | f d =>
      obtain ⟨a, e, q⟩ := oy
      exact ⟨a, e, q.pres R.lo p fun w => pr.same a w⟩
    | s i => exact oy
  refine ⟨t, ez, ?_⟩
  cases t with
  | false =>
    rw [if_neg Bool.false_ne_true] at P ⊢
    exact P _ _ (ER.fin R3 st3 hE (PR.val (.bl false)))
  | true =>
    rw [if_pos rfl] at P ⊢
    refine ⟨E2, n2, R3, (post_bnd.mp P).imp (fun w n4 _ P4 z4 H4 er => ?_) fun c pl n' z => z.later st3 hE⟩
    have ow : Od G.K H4 (OE (orP E2 (tmp w z4)) n4 σ) σ y u := by
      cases y with
      | v d => exact RV.pres R3.lo (R3.pres er.step fun a q => q.imp id fun q => er.new a q) oy3
      | s i => exact oy3
      | f d =>
        obtain ⟨a, e, q⟩ := oy3
        refine ⟨a, e, q.pres R3.lo (R3.pres er.step fun a q => q.imp id fun q => er.new a q) fun u0 z0 => er.step.fr a u0 z0 fun m => ?_⟩
        obtain ⟨i, l, pp, d', h1, h2⟩ := m.exc
        obtain ⟨b, e1, _, e3⟩ := R3.own i l pp d' h1
        rw [h2] at e1
        cases e1
        exact e3 (hm a (.inr e))
    obtain ⟨e', re', P5⟩ := post_rd er.rel ow P4
    obtain ⟨g, rg, P5⟩ := post_rd er.rel er.op P5
    obtain ⟨t', eo', P6⟩ := post_opt P5
    exact ⟨_, e', g, .v (.bool t'), er.rel.lo, re', rg, by dsimp only; rw [eo']; rfl, fun z H' pr' => P6 z H' (ER.fin er.rel (st3.trans er.step) (fun a q => .inl (hE a q)) pr')⟩
theorem se_cmp2 {op op' : CmpOp} (hK : X.K = G.K) (hu : X.A.units + 64 < cLine) (ha : SE X G W a (ev cf ca)) (hb : SE X G W b (ev cf cb)) (hc : SE X G W c (ev cf cc)) (hm : lastMarks [op, op'] [b, c] = false) : SE X G W (.Compare a [op, op'] [b, c] pos) (ev cf (.cmp2 op op' ca cb cc)) :=
  (pe_chain (op_cmp hu op) (op_cmp hu op') ha hb hc hm).le fun σ H Q h => tE_chain hK h
theorem cmp2_bool {op op' : CmpOp} {n n1 : En} {x : Opd} (e : ev cf (.cmp2 op op' ca cb cc) n = .ok x n1) : ∃ t, x = .v (.bool t) := by
  obtain ⟨x1, m1, _, e⟩ := bnd_ok (show bnd _ _ _ = _ from e)
  obtain ⟨x2, m2, _, e⟩ := bnd_ok e
  obtain ⟨x3, m3, _, e⟩ := bnd_ok e
  obtain ⟨x4, m4, _, e⟩ := bnd_ok e
  obtain ⟨x5, m5, _, e⟩ := bnd_ok e
  split at e
  · obtain ⟨x6, m6, _, e⟩ := bnd_ok e
    obtain ⟨x7, m7, _, e⟩ := bnd_ok e
    obtain ⟨x8, m8, _, e⟩ := bnd_ok e
    obtain ⟨x9, m9, _, e⟩ := bnd_ok e
    cases e
    exact ⟨x9, rfl⟩
  · cases e
    exact ⟨false, rfl⟩
theorem st_cmp2 {op op' : CmpOp} (hK : X.K = G.K) (hu : X.A.units + 64 < cLine) (ha : SE X G W a (ev cf ca)) (hb : SE X G W b (ev cf cb)) (hc : SE X G W c (ev cf cc)) (hm : lastMarks [op, op'] [b, c] = false) : ST X G W (.Compare a [op, op'] [b, c] pos) (bnd (ev cf (.cmp2 op op' ca cb cc)) truM) := by
  refine (pt_chain (op_cmp hu op) (op_cmp hu op') ha hb hc hm).le fun σ H Q h => ?_
  obtain ⟨E, n, R, P⟩ := h
  refine tE_chain hK (Q := fun x H' => ∃ k, x = .bl k ∧ Q k H') ⟨E, n, R, (post_bnd.mp P).mono fun x n1 ex P1 v H1 er => ?_⟩
  obtain ⟨t, rfl⟩ := cmp2_bool ex
  have ev : v = .bl t := by
    have := er.op
    cases (show RV _ _ _ v (.bool t) from this).b
    rfl
  exact ⟨t, ev, P1 H1 (er.rel.weak er.up) er.step⟩
/-! ### slices -/
/-- a bound of a slice: written or not -/
def tO (G : GX) (W : WX) (m : M (Option Int)) : TO := fun σ H R => ∃ E n, Rel G.K E n σ H ∧ Post G W E n σ H (fun l n' => ∀ H', Rel G.K E n' σ H' → Step n σ H n' σ H' → R l H') (m n)
theorem _root_.L2.PO.le {e : Option Expr} {t t' : TO} (h : PO X e t) (q : ∀ σ H R, t' σ H R → t σ H R) : PO X e t' := ⟨fun pins s σ H R I w => h.run pins s σ H R I (q σ H R w)⟩
theorem so_none : PO X none (tO G W (ret none)) := po_none.le fun σ H R ⟨E, n, r, P⟩ => P H r .refl
theorem so_some (ha : SE X G W a ma) : PO X (some a) (tO G W (bnd ma asInt)) := by
  refine (po_some ha).le fun σ H R ⟨E, n, r, P⟩ => ?_
  refine ⟨E, n, r, (post_bnd.mp P).mono fun o n1 _ P1 v H1 er => ?_⟩
  obtain ⟨d, hd, P2⟩ := post_rd er.rel er.op P1
  cases d with
  | int i =>
    cases hd.int
    exact ⟨i, rfl, P2 H1 (er.rel.weak er.up) er.step⟩
  | _ => exact P2.elim
theorem tO_then {α : Type} {m : M (Option Int)} {k : Option Int → M α} {E E1 : Addr → Prop} {n n1 : En} {σ : L2.St} {H H1 : Hp} {P : α → En → Prop} {R : Option Int → Hp → Prop} (r : Rel G.K E1 n1 σ H1) (st : Step n σ H n1 σ H1) (hE : ∀ a, E a → E1 a)
    (p : Post G W E n σ H P (bnd m k n1)) (hk : ∀ l n2 H2, Rel G.K E1 n2 σ H2 → Step n1 σ H1 n2 σ H2 → Post G W E n σ H P (k l n2) → R l H2) : tO G W m σ H1 R :=
  ⟨E1, n1, r, (post_bnd.mp p).imp (fun l n2 _ q H2 r2 s2 => hk l n2 H2 r2 s2 q) fun c pl n' z => z.later st hE⟩
theorem se_slc {lo hi : Option Expr} {cl ch : Ex} {p2 : Pos} (hK : X.K = G.K) (ha : SE X G W a (ev cf ca)) (hl : PO X lo (tO G W (match cl with | .nil => ret none | _ => bnd (ev cf cl) asInt))) (hh : PO X hi (tO G W (match ch with | .nil => ret none | _ => bnd (ev cf ch) asInt))) :
    SE X G W (.Subscript a (.Slice lo hi none p2) pos) (ev cf (.slc ca cl ch)) := by
  refine (pe_slice sl_any ha hl hh).le fun σ H Q h => ?_
  refine tE_one h fun E n E1 n1 x v H1 R ox hE st hn hE1 P => ?_
  refine tO_then R st hE P fun l n2 H2 R2 s2 P2 => ?_
  refine tO_then R2 (st.trans s2) hE P2 fun h n3 H3 R3 s3 P3 => ?_
  have o3 : Od G.K H3 (OE E1 n3 σ) σ x v := ox.carry R (s2.trans s3) (fun a q => .inl q) fun a q => by rw [hE1]; exact .inr q
  obtain ⟨d, hd, P4⟩ := post_rd R3 o3 P3
  obtain ⟨o, eo, P5⟩ := post_opt1 P4
  rw [hK]
  refine ⟨_, d, o, R3.lo, hd, ?_, fun z H' pr => P5 z H' (ER.fin R3 ((st.trans s2).trans s3) hE pr)⟩
  cases d with
  | list xs => cases eo; rfl
  | tuple xs => cases eo; rfl
  | _ => cases eo
end
end DM
set_option Elab.async false
set_option linter.all false
set_option maxRecDepth 100000
/-! DM8: calls of the text's own defs. -/
namespace DM
open PySem PySem.Spec PyProof.Rows L2

/-! ### lists by their places -/
theorem argsOf_get {n : En} : ∀ {ios : List Bool} {os : List Opd} {as : List Sl}, argsOf n ios os = some as →
    as.length = os.length ∧ ∀ (k : Nat) s, as[k]? = some s → ∃ io o, ios[k]? = some io ∧ os[k]? = some o ∧ argOf n io o = some s
  | [], [], _, e => by
    cases e
    exact ⟨rfl, fun k s h => by simp at h⟩
  | [], _ :: _, _, e => by cases e
  | _ :: _, [], _, e => by cases e
  | io :: ios, o :: os, as, e => by
    simp only [argsOf] at e
    split at e
    · rename_i a r h1 h2
      cases e
      obtain ⟨l, g⟩ := argsOf_get h2
      refine ⟨by rw [List.length_cons, List.length_cons, l], fun k s h => ?_⟩
      cases k with
      | zero =>
        cases h
        exact ⟨io, o, rfl, rfl, h1⟩
      | succ k => exact g k s (by simpa using h)
    · cases e
theorem argsOf_len {n : En} : ∀ {ios : List Bool} {os : List Opd} {as : List Sl}, argsOf n ios os = some as → ios.length = os.length
  | [], [], _, e => rfl
  | [], _ :: _, _, e => by cases e
  | _ :: _, [], _, e => by cases e
  | io :: ios, o :: os, as, e => by
    simp only [argsOf] at e
    split at e
    · rename_i a r h1 h2
      rw [List.length_cons, List.length_cons, argsOf_len h2]
    · cases e
theorem Ods.get {K : PySem.W.Frag} {H : Hp} {O : Addr → Prop} {σ : L2.St} : ∀ {os : List Opd} {vs : List V} {k : Nat} {o : Opd}, Ods K H O σ os vs → os[k]? = some o → ∃ v, vs[k]? = some v ∧ Od K H O σ o v
  | _, _, _, _, .nil, h => by simp at h
  | _, _, 0, _, .cons q r, h => by
    cases h
    exact ⟨_, rfl, q⟩
  | _, _, k + 1, _, .cons q r, h => by
    obtain ⟨v, h1, h2⟩ := r.get (k := k) (by simpa using h)
    exact ⟨v, by simpa using h1, h2⟩
theorem tmps_get : ∀ {os : List Opd} {vs : List V} {k : Nat} {o : Opd} {v : V} {a : Addr}, os[k]? = some o → vs[k]? = some v → tmp o v a → tmps os vs a
  | [], _, _, _, _, _, h, _, _ => by simp at h
  | _ :: _, [], _, _, _, _, _, h, _ => by simp at h
  | _ :: _, _ :: _, 0, _, _, _, h1, h2, h => by
    cases h1
    cases h2
    exact .inl h
  | _ :: _, _ :: _, k + 1, _, _, _, h1, h2, h => .inr (tmps_get (k := k) (by simpa using h1) (by simpa using h2) h)
theorem ioSl_mem : ∀ {ios : List Bool} {os : List Opd} {k i : Nat}, ios[k]? = some true → os[k]? = some (.s i) → i ∈ ioSl ios os
  | [], _, _, _, h, _ => by simp at h
  | _ :: _, [], _, _, _, h => by simp at h
  | io :: ios, o :: os, 0, i, h1, h2 => by
    cases h1
    cases h2
    simp [ioSl]
  | io :: ios, o :: os, k + 1, i, h1, h2 => by
    have q := ioSl_mem (k := k) (by simpa using h1) (by simpa using h2)
    cases io with
    | false => simpa [ioSl] using q
    | true => cases o <;> simp [ioSl, q]
theorem plSl_mem : ∀ {ios : List Bool} {os : List Opd} {k i : Nat}, ios[k]? = some false → os[k]? = some (.s i) → i ∈ plSl ios os
  | [], _, _, _, h, _ => by simp at h
  | _ :: _, [], _, _, _, h => by simp at h
  | io :: ios, o :: os, 0, i, h1, h2 => by
    cases h1
    cases h2
    simp [plSl]
  | io :: ios, o :: os, k + 1, i, h1, h2 => by
    have q := plSl_mem (k := k) (by simpa using h1) (by simpa using h2)
    cases io with
    | true => simpa [plSl] using q
    | false => cases o <;> simp [plSl, q]
theorem ioSl_of : ∀ {ios : List Bool} {os : List Opd} {i : Nat}, i ∈ ioSl ios os → ∃ (k : Nat), ios[k]? = some true ∧ os[k]? = some (.s i)
  | [], _, _, h => by simp [ioSl] at h
  | _ :: _, [], _, h => by simp [ioSl] at h
  | io :: ios, o :: os, i, h => by
    have go : i ∈ ioSl ios os → ∃ (k : Nat), (io :: ios)[k]? = some true ∧ (o :: os)[k]? = some (.s i) := fun h => by
      obtain ⟨k, h1, h2⟩ := ioSl_of h
      exact ⟨k + 1, by simpa using h1, by simpa using h2⟩
    cases io with
    | false => exact go (by simpa [ioSl] using h)
    | true =>
      cases o with
      | s j =>
        simp only [ioSl, List.mem_cons] at h
        rcases h with h | h
        · subst h
          exact ⟨0, rfl, rfl⟩
        · exact go h
      | v d => exact go (by simpa [ioSl] using h)
      | f d => exact go (by simpa [ioSl] using h)
theorem ioSl_inj : ∀ {ios : List Bool} {os : List Opd} {k l i : Nat}, (ioSl ios os).Nodup → ios[k]? = some true → os[k]? = some (.s i) → ios[l]? = some true → os[l]? = some (.s i) → k = l
  | [], _, _, _, _, _, h, _, _, _ => by simp at h
  | _ :: _, [], _, _, _, _, _, h, _, _ => by simp at h
  | io :: ios, o :: os, 0, 0, _, _, _, _, _, _ => rfl
  | io :: ios, o :: os, 0, l + 1, i, nd, h1, h2, h3, h4 => by
    cases h1
    cases h2
    simp only [ioSl, List.nodup_cons] at nd
    exact absurd (ioSl_mem (k := l) (by simpa using h3) (by simpa using h4)) nd.1
  | io :: ios, o :: os, k + 1, 0, i, nd, h1, h2, h3, h4 => by
    cases h3
    cases h4
    simp only [ioSl, List.nodup_cons] at nd
    exact absurd (ioSl_mem (k := k) (by simpa using h1) (by simpa using h2)) nd.1
  | io :: ios, o :: os, k + 1, l + 1, i, nd, h1, h2, h3, h4 => by
    have nd' : (ioSl ios os).Nodup := by
      cases io with
      | false => simpa [ioSl] using nd
      | true =>
        cases o with
        | s j =>
          simp only [ioSl, List.nodup_cons] at nd
          exact nd.2
        | v d => simpa [ioSl] using nd
        | f d => simpa [ioSl] using nd
    exact congrArg (· + 1) (ioSl_inj (k := k) (l := l) nd' (by simpa using h1) (by simpa using h2) (by simpa using h3) (by simpa using h4))
theorem backIO_get : ∀ {ios : List Bool} {os : List Opd} {fin : List Sl} {n n1 : En}, backIO ios os fin n = some n1 → (ioSl ios os).Nodup →
    n1.length = n.length ∧ (∀ (j : Nat), j ∉ ioSl ios os → n1[j]? = n[j]?) ∧
      ∀ (k j : Nat), ios[k]? = some true → os[k]? = some (.s j) → ∃ pr d d', n[j]? = some (.own false pr d) ∧ fin[k]? = some (.own false true d') ∧ n1[j]? = some (.own false pr d')
  | [], [], [], _, _, e, _ => by
    cases e
    exact ⟨rfl, fun _ _ => rfl, fun k j h => by simp at h⟩
  | [], [], _ :: _, _, _, e, _ => by cases e
  | [], _ :: _, _, _, _, e, _ => by cases e
  | true :: _, [], _, _, _, e, _ => by cases e
  | false :: _, [], _, _, _, e, _ => by cases e
  | false :: ios, o :: os, [], _, _, e, _ => by cases e
  | false :: ios, o :: os, f :: fs, n, n1, e, nd => by
    have e' : backIO ios os fs n = some n1 := by
      cases o <;> simpa [backIO] using e
    have es : ioSl (false :: ios) (o :: os) = ioSl ios os := by simp [ioSl]
    rw [es] at nd ⊢
    obtain ⟨h1, h2, h3⟩ := backIO_get e' nd
    refine ⟨h1, h2, fun k j a b => ?_⟩
    cases k with
    | zero => cases a
    | succ k =>
      obtain ⟨pr, d, d', q1, q2, q3⟩ := h3 k j (by simpa using a) (by simpa using b)
      exact ⟨pr, d, d', q1, by simpa using q2, q3⟩
  | true :: ios, .v _ :: os, fin, n, n1, e, nd => by simp [backIO] at e
  | true :: ios, .f _ :: os, fin, n, n1, e, nd => by simp [backIO] at e
  | true :: ios, .s i :: os, fin, n, n1, e, nd => by
    have shp : ∃ d' fs, fin = .own false true d' :: fs := by
      cases fin with
      | nil => simp [backIO] at e
      | cons f fs =>
        cases f with
        | own l p d =>
          cases l with
          | true => simp [backIO] at e
          | false =>
            cases p with
            | false => simp [backIO] at e
            | true => exact ⟨d, fs, rfl⟩
        | _ => simp [backIO] at e
    obtain ⟨d', fs, rfl⟩ := shp
    simp only [backIO] at e
    split at e
    · rename_i pr d hi
      have es : ioSl (true :: ios) (.s i :: os) = i :: ioSl ios os := rfl
      rw [es, List.nodup_cons] at nd
      obtain ⟨h1, h2, h3⟩ := backIO_get e nd.2
      have hl : i < n.length := (List.getElem?_eq_some_iff.mp hi).1
      have ni : n1[i]? = some (.own false pr d') := by
        rw [h2 i nd.1, List.getElem?_set_self hl]
      refine ⟨by rw [h1, List.length_set], fun j hj => ?_, fun k j a b => ?_⟩
      · rw [es, List.mem_cons, not_or] at hj
        rw [h2 j hj.2, List.getElem?_set_ne (Ne.symm hj.1)]
      · cases k with
        | zero =>
          cases b
          exact ⟨pr, d, d', hi, rfl, ni⟩
        | succ k =>
          have hm : j ∈ ioSl ios os := ioSl_mem (k := k) (by simpa using a) (by simpa using b)
          have hne : i ≠ j := fun e => by
            subst e
            exact nd.1 hm
          obtain ⟨pr2, d2, d3, q1, q2, q3⟩ := h3 k j (by simpa using a) (by simpa using b)
          rw [List.getElem?_set_ne hne] at q1
          exact ⟨pr2, d2, d3, q1, by simpa using q2, q3⟩
    · cases e
theorem freeze_get : ∀ {is : List Nat} {n n1 : En}, freeze is n = some n1 →
    n1.length = n.length ∧ (∀ (j : Nat), j ∉ is → n1[j]? = n[j]?) ∧ ∀ j ∈ is, ∃ d, ((∃ l, n[j]? = some (.own l false d)) ∨ n[j]? = some (.val d)) ∧ n1[j]? = some (.val d)
  | [], _, _, e => by
    cases e
    exact ⟨rfl, fun _ _ => rfl, fun j h => by simp at h⟩
  | i :: is, n, n1, e => by
    simp only [freeze] at e
    split at e
    · rename_i l d hi
      obtain ⟨h1, h2, h3⟩ := freeze_get e
      have hl : i < n.length := (List.getElem?_eq_some_iff.mp hi).1
      have key : ∀ j, j ∈ is → ∃ d, ((∃ l, n[j]? = some (.own l false d)) ∨ n[j]? = some (.val d)) ∧ n1[j]? = some (.val d) := fun j hj => by
        obtain ⟨d2, q, q2⟩ := h3 j hj
        by_cases hij : i = j
        · subst hij
          rw [List.getElem?_set_self hl] at q
          rcases q with ⟨l2, q⟩ | q
          · cases q
          · cases q
            exact ⟨d, .inl ⟨l, hi⟩, q2⟩
        · rw [List.getElem?_set_ne hij] at q
          exact ⟨d2, q, q2⟩
      refine ⟨by rw [h1, List.length_set], fun j hj => ?_, fun j hj => ?_⟩
      · rw [List.mem_cons, not_or] at hj
        rw [h2 j hj.2, List.getElem?_set_ne (Ne.symm hj.1)]
      · by_cases hm : j ∈ is
        · exact key j hm
        · have hji : j = i := by
            rw [List.mem_cons] at hj
            exact hj.resolve_right hm
          subst hji
          exact ⟨d, .inl ⟨l, hi⟩, by rw [h2 j hm, List.getElem?_set_self hl]⟩
    · rename_i d hi
      obtain ⟨h1, h2, h3⟩ := freeze_get e
      refine ⟨h1, fun j hj => ?_, fun j hj => ?_⟩
      · rw [List.mem_cons, not_or] at hj
        exact h2 j hj.2
      · by_cases hm : j ∈ is
        · exact h3 j hm
        · have hji : j = i := by
            rw [List.mem_cons] at hj
            exact hj.resolve_right hm
          subst hji
          exact ⟨d, .inr hi, by rw [h2 j hm, hi]⟩
    · cases e

section
variable {G : GX} {W : WX} {K : PySem.W.Frag} {E : Addr → Prop} {n n1 n2 : En} {σ : L2.St} {H H' : Hp} {os : List Opd} {vs : List V} {ios : List Bool} {as fin : List Sl}
/-- what is owned elsewhere while a def runs -/
def EC (E : Addr → Prop) (n : En) (σ : L2.St) (os : List Opd) : Addr → Prop := fun a => E a ∨ (Exc n σ a ∧ ¬ ∃ (i : Nat) (l p : Bool) (d : PyData), Opd.s i ∈ os ∧ n[i]? = some (.own l p d) ∧ σ[i]? = some (some (.ref a)))
theorem start_get {k : Nat} {v : V} (h : vs[k]? = some v) : (vs.map some)[k]? = some (some v) := by rw [List.getElem?_map, h]; rfl
/-- the io arguments -/
theorem exc_args (e : argsOf n ios os = some as) (q : Ods K H (OE (orP E (tmps os vs)) n σ) σ os vs) {k : Nat} {l p : Bool} {d : PyData} (h : as[k]? = some (.own l p d)) :
    ∃ (i : Nat) (pr : Bool) (v : V), ios[k]? = some true ∧ os[k]? = some (.s i) ∧ n[i]? = some (.own false pr d) ∧ l = false ∧ p = true ∧ vs[k]? = some v ∧ σ[i]? = some (some v) := by
  obtain ⟨_, g⟩ := argsOf_get e
  obtain ⟨io, o, h1, h2, h3⟩ := g k _ h
  cases io with
  | false =>
    cases o with
    | v d' => simp [argOf] at h3
    | f d' => simp [argOf] at h3
    | s i =>
      simp only [argOf] at h3
      split at h3 <;> cases h3
  | true =>
    cases o with
    | v d' => simp [argOf] at h3
    | f d' => simp [argOf] at h3
    | s i =>
      simp only [argOf] at h3
      split at h3
      · rename_i pr d' hs
        cases h3
        obtain ⟨v, e1, e2⟩ := q.get h2
        exact ⟨i, pr, v, h1, h2, hs, rfl, rfl, e1, e2⟩
      · cases h3
theorem args_rel (R0 : LO H E) (R : Rel K (orP E (tmps os vs)) n σ H) (q : Ods K H (OE (orP E (tmps os vs)) n σ) σ os vs) (hf : ∀ a, tmps os vs a → ¬ E a) (nd : (ioSl ios os).Nodup) (dj : ∀ i ∈ ioSl ios os, i ∉ plSl ios os) (e : argsOf n ios os = some as) :
    Rel K (EC E n σ os) as (vs.map some) H := by
  obtain ⟨hl, g⟩ := argsOf_get e
  have exA : ∀ a, Exc as (vs.map some) a → ∃ (k i : Nat) (pr : Bool) (d : PyData), ios[k]? = some true ∧ os[k]? = some (.s i) ∧ n[i]? = some (.own false pr d) ∧ σ[i]? = some (some (.ref a)) := fun a ⟨k, l, p, d, h1, h2⟩ => by
    obtain ⟨i, pr, v, q1, q2, q3, _, _, q4, q5⟩ := exc_args e q h1
    rw [start_get q4] at h2
    cases h2
    exact ⟨k, i, pr, d, q1, q2, q3, q5⟩
  have exN : ∀ a, Exc as (vs.map some) a → Exc n σ a := fun a h => by
    obtain ⟨k, i, pr, d, _, _, h3, h4⟩ := exA a h
    exact ⟨i, false, pr, d, h3, h4⟩
  have an : ∀ a, OE (EC E n σ os) as (vs.map some) a → OE (orP E (tmps os vs)) n σ a := fun a h => by
    rcases h with (h | h) | h
    · exact .inl (.inl h)
    · exact .inr h.1
    · exact .inr (exN a h)
  refine ⟨by rw [List.length_map, hl, q.length], fun k d h => ?_, fun k l p d h => ?_, fun k l a l1 p1 d1 l2 p2 d2 h1 h2 s1 s2 => ?_, fun k c pl h => ?_, fun a h => ?_⟩
  · obtain ⟨io, o, h1, h2, h3⟩ := g k _ h
    obtain ⟨v, e1, e2⟩ := q.get h2
    refine ⟨v, start_get e1, ?_⟩
    cases io with
    | true =>
      cases o with
      | v d' => simp [argOf] at h3
      | f d' => simp [argOf] at h3
      | s i =>
        simp only [argOf] at h3
        split at h3 <;> cases h3
    | false =>
      cases o with
      | v d' =>
        simp only [argOf] at h3
        cases h3
        exact RV.anti an e2
      | f d' =>
        simp only [argOf] at h3
        cases h3
        obtain ⟨a, rfl, u0, xs, ds, c0, q1, q2⟩ := e2
        have tm : tmps os vs a := tmps_get h2 e1 rfl
        have nex : ¬ Exc n σ a := fun ⟨i, l, p, d, z1, z2⟩ => by
          obtain ⟨b, y1, _, y3⟩ := R.own i l p d z1
          rw [z2] at y1
          cases y1
          exact y3 (.inr tm)
        refine .lst (fun z => ?_) q1 c0 (q2.anti an)
        rcases z with (z | z) | z
        · exact hf a tm z
        · exact nex z.1
        · exact nex (exN a z)
      | s i =>
        simp only [argOf] at h3
        split at h3
        · rename_i l p d' hs
          cases h3
          obtain ⟨a, y1, ⟨u0, xs, ds, y4, y5, y6⟩, y3⟩ := R.own i l p d hs
          have e3 : σ[i]? = some (some v) := e2
          rw [y1] at e3
          cases e3
          refine .lst (fun z => ?_) y5 y4 (y6.anti an)
          rcases z with (z | z) | z
          · exact y3 (.inl z)
          · exact z.2 ⟨i, l, p, _, List.mem_of_getElem? h2, hs, y1⟩
          · obtain ⟨k', i', pr, d', z1, z2, z3, z4⟩ := exA a z
            have hii := R.apart i i' a _ _ _ _ _ _ hs z3 y1 z4
            subst hii
            exact dj i (ioSl_mem z1 z2) (plSl_mem h1 h2)
        · rename_i d' hs
          cases h3
          obtain ⟨w, y1, y2⟩ := R.val i d hs
          have e3 : σ[i]? = some (some v) := e2
          rw [y1] at e3
          cases e3
          exact y2.anti an
        · cases h3
  · obtain ⟨i, pr, v, q1, q2, q3, _, _, q4, q5⟩ := exc_args e q h
    obtain ⟨a, y1, y2, y3⟩ := R.own i false pr d q3
    rw [y1] at q5
    cases q5
    refine ⟨a, start_get q4, y2.anti an, fun z => ?_⟩
    rcases z with z | z
    · exact y3 (.inl z)
    · exact z.2 ⟨i, false, pr, d, List.mem_of_getElem? q2, q3, y1⟩
  · obtain ⟨i, pr, v, q1, q2, q3, _, _, q4, q5⟩ := exc_args e q h1
    obtain ⟨j, pr', v', q1', q2', q3', _, _, q4', q5'⟩ := exc_args e q h2
    rw [start_get q4] at s1
    rw [start_get q4'] at s2
    cases s1
    cases s2
    have hij := R.apart i j a _ _ _ _ _ _ q3 q3' q5 q5'
    subst hij
    exact ioSl_inj nd q1 q2 q1' q2'
  · obtain ⟨io, o, h1, h2, h3⟩ := g k _ h
    cases io <;> cases o <;> simp only [argOf] at h3 <;> first | (cases h3; done) | (split at h3 <;> cases h3)
  · rcases h with h | h
    · exact R0 a h
    · exact R.lo a (.inr h.1)
theorem flatSl_of {k : Nat} {d : PyData} {u : HO} {xs : List V} {ds : List PyData} (h : fin.all flatSl = true) (e : fin[k]? = some (.own false true d)) (c : Cel u xs ds d) : flatAll ds = true := by
  have := List.all_eq_true.mp h _ (List.mem_of_getElem? e)
  cases c with
  | lst => exact this
  | dct _ => cases this
/-- behind a call -/
theorem call_back {r : Opd} {v : V} (R0 : LO H E) (R : Rel K (orP E (tmps os vs)) n σ H) (q : Ods K H (OE (orP E (tmps os vs)) n σ) σ os vs) (nd : (ioSl ios os).Nodup) (dj : ∀ i ∈ ioSl ios os, i ∉ plSl ios os) (e : argsOf n ios os = some as)
    (hr : ∀ i, r ≠ .s i) (er : ER K (EC E n σ os) as (vs.map some) H r fin v H') (e1 : backIO ios os fin n = some n1) (e2 : freezeUnless (flatR r && fin.all flatSl) (plSl ios os) n1 = some n2) : ER K E n σ H r n2 v H' := by
  obtain ⟨l1, b1, b2⟩ := backIO_get e1 nd
  -- own slots behind were own slots ahead
  have fz : n2.length = n1.length ∧ (∀ (j : Nat), j ∉ plSl ios os → n2[j]? = n1[j]?) ∧ ∀ (j : Nat), j ∈ plSl ios os → n2[j]? = n1[j]? ∨ ∃ d, ((∃ l, n1[j]? = some (.own l false d)) ∨ n1[j]? = some (.val d)) ∧ n2[j]? = some (.val d) := by
    unfold freezeUnless at e2
    split at e2
    · cases e2
      exact ⟨rfl, fun _ _ => rfl, fun _ _ => .inl rfl⟩
    · obtain ⟨h1, h2, h3⟩ := freeze_get e2
      exact ⟨h1, h2, fun j hj => .inr (h3 j hj)⟩
  obtain ⟨l2, f1, f2⟩ := fz
  have hasOwn : ∀ (j : Nat) l p d, n2[j]? = some (.own l p d) → n1[j]? = some (.own l p d) := fun j l p d h => by
    by_cases hj : j ∈ plSl ios os
    · rcases f2 j hj with h2 | ⟨d2, _, h2⟩
      · rw [← h2]; exact h
      · rw [h] at h2; cases h2
    · rw [← f1 j hj]; exact h
  have ownN : ∀ (j : Nat) l p d, n2[j]? = some (.own l p d) → ∃ d0, n[j]? = some (.own l p d0) ∧ ((j ∉ ioSl ios os ∧ d0 = d) ∨ ∃ (k : Nat), ios[k]? = some true ∧ os[k]? = some (.s j) ∧ l = false ∧ fin[k]? = some (.own false true d)) := fun j l p d h => by
    have h1 := hasOwn j l p d h
    by_cases hj : j ∈ ioSl ios os
    · obtain ⟨k, k1, k2⟩ := ioSl_of hj
      obtain ⟨pr, d0, d', q1, q2, q3⟩ := b2 k j k1 k2
      rw [h1] at q3
      cases q3
      exact ⟨d0, q1, .inr ⟨k, k1, k2, rfl, q2⟩⟩
    · rw [b1 j hj] at h1
      exact ⟨d, h1, .inl ⟨hj, rfl⟩⟩
  have ex2 : ∀ a, Exc n2 σ a → Exc n σ a := fun a ⟨j, l, p, d, h1, h2⟩ => by
    obtain ⟨d0, h3, _⟩ := ownN j l p d h1
    exact ⟨j, l, p, d0, h3, h2⟩
  have mu2 : ∀ a, Mu n2 σ a → Mu n σ a := fun a ⟨j, p, d, h1, h2⟩ => by
    obtain ⟨d0, h3, _⟩ := ownN j false p d h1
    exact ⟨j, p, d0, h3, h2⟩
  have muA : ∀ a, Mu as (vs.map some) a → ∃ (k i : Nat) (pr : Bool) (d : PyData), ios[k]? = some true ∧ os[k]? = some (.s i) ∧ n[i]? = some (.own false pr d) ∧ σ[i]? = some (some (.ref a)) := fun a ⟨k, p, d, h1, h2⟩ => by
    obtain ⟨i, pr, v, q1, q2, q3, _, _, q4, q5⟩ := exc_args e q h1
    rw [start_get q4] at h2
    cases h2
    exact ⟨k, i, pr, d, q1, q2, q3, q5⟩
  have muN : ∀ a, Mu as (vs.map some) a → Mu n σ a := fun a h => by
    obtain ⟨k, i, pr, d, _, _, h3, h4⟩ := muA a h
    exact ⟨i, pr, d, h3, h4⟩
  have notE : ∀ a, E a → ¬ Exc n σ a := fun a h ⟨i, l, p, d, z1, z2⟩ => by
    obtain ⟨b, y1, _, y3⟩ := R.own i l p d z1
    rw [z2] at y1
    cases y1
    exact y3 (.inl h)
  -- an address of a name that was not handed in to be changed
  have keepA : ∀ (j : Nat) l p d a, n[j]? = some (.own l p d) → σ[j]? = some (some (.ref a)) → j ∉ ioSl ios os → ¬ Mu as (vs.map some) a := fun j l p d a h1 h2 hj m => by
    obtain ⟨k, i, pr, d', k1, k2, k3, k4⟩ := muA a m
    have hij := R.apart j i a _ _ _ _ _ _ h1 k3 h2 k4
    subst hij
    exact hj (ioSl_mem k1 k2)
  have pres : Pres H (OE (orP E (tmps os vs)) n σ) H' (OE (orP E (tmp r v)) n2 σ) := ⟨fun a o h ho => er.step.fr a o h fun m => ho (.inr (muN a m).exc), fun a h => by
    rcases h with (h | h) | h
    · exact .inl (.inl (.inl h))
    · exact .inr (er.new a h)
    · exact .inl (.inr (ex2 a h))⟩
  -- if lists were frozen: what is owned behind
  have an : (flatR r && fin.all flatSl) = false → ∀ a, OE (orP E (tmp r v)) n2 σ a → OE (orP (EC E n σ os) (tmp r v)) fin (vs.map some) a := fun hb a h => by
    rcases h with (h | h) | ⟨j, l, p, d, h1, h2⟩
    · exact .inl (.inl (.inl h))
    · exact .inl (.inr h)
    · obtain ⟨d0, h3, h4⟩ := ownN j l p d h1
      rcases h4 with ⟨hj, _⟩ | ⟨k, k1, k2, _, k3⟩
      · refine .inl (.inl (.inr ⟨⟨j, l, p, d0, h3, h2⟩, fun ⟨i, l', p', d', m1, m2, m3⟩ => ?_⟩))
        have hij := R.apart i j a _ _ _ _ _ _ m2 h3 m3 h2
        subst hij
        obtain ⟨k, hk⟩ := List.getElem?_of_mem m1
        have hk1 : k < as.length := by
          rw [(argsOf_get e).1]
          exact (List.getElem?_eq_some_iff.mp hk).1
        obtain ⟨io, o, g1, g2, _⟩ := (argsOf_get e).2 k as[k] (List.getElem?_eq_getElem hk1)
        rw [hk] at g2
        cases g2
        cases io with
        | true => exact hj (ioSl_mem g1 hk)
        | false =>
          have hp := plSl_mem g1 hk
          unfold freezeUnless at e2
          rw [hb, if_neg Bool.false_ne_true] at e2
          obtain ⟨_, _, h5⟩ := freeze_get e2
          obtain ⟨d2, _, h6⟩ := h5 i hp
          rw [h1] at h6
          cases h6
      · obtain ⟨w, y1, y2⟩ := q.get k2
        have y3 : σ[j]? = some (some w) := y2
        rw [h2] at y3
        cases y3
        exact .inr ⟨k, false, true, d, k3, start_get y1⟩
  have rvs : ∀ {ws : List V} {ds : List PyData}, ((flatR r && fin.all flatSl) = true → flatAll ds = true) → RVs K H' (OE (orP (EC E n σ os) (tmp r v)) fin (vs.map some)) ws ds → RVs K H' (OE (orP E (tmp r v)) n2 σ) ws ds := fun {ws ds} hfl h => by
    cases hb : (flatR r && fin.all flatSl) with
    | true => exact RVs.flat (hfl hb) h
    | false => exact h.anti (an hb)
  refine ⟨⟨by rw [l2, l1]; exact R.len, fun j d h => ?_, fun j l p d h => ?_, fun i j a _ _ _ _ _ _ h1 h2 s1 s2 => ?_, fun j c pl h => ?_, fun a h => ?_⟩, ?_, ⟨fun a o h m => er.step.fr a o h fun z => m (muN a z), er.step.tr, fun a z => .inl (mu2 a z), fun a z => .inl (ex2 a z), fun i l d h => ?_, fun i p d h => let ⟨d0, h3, _⟩ := ownN i true p d h; ⟨d0, h3, rfl⟩⟩, er.new⟩
  · -- a value
    have cse : n[j]? = some (.val d) ∨ ∃ l, n[j]? = some (.own l false d) ∧ j ∉ ioSl ios os := by
      have h1 : n1[j]? = some (.val d) ∨ ∃ l, n1[j]? = some (.own l false d) ∧ j ∈ plSl ios os := by
        by_cases hj : j ∈ plSl ios os
        · rcases f2 j hj with h2 | ⟨d2, h2, h3⟩
          · exact .inl (by rw [← h2]; exact h)
          · rw [h] at h3
            cases h3
            rcases h2 with ⟨l, h2⟩ | h2
            · exact .inr ⟨l, h2, hj⟩
            · exact .inl h2
        · exact .inl (by rw [← f1 j hj]; exact h)
      rcases h1 with h1 | ⟨l, h1, h2⟩
      · by_cases hj : j ∈ ioSl ios os
        · obtain ⟨k, k1, k2⟩ := ioSl_of hj
          obtain ⟨pr, d0, d', _, _, q3⟩ := b2 k j k1 k2
          rw [h1] at q3
          cases q3
        · exact .inl (by rw [← b1 j hj]; exact h1)
      · have hj : j ∉ ioSl ios os := fun z => dj j z h2
        exact .inr ⟨l, by rw [← b1 j hj]; exact h1, hj⟩
    rcases cse with h1 | ⟨l, h1, hj⟩
    · obtain ⟨w, y1, y2⟩ := R.val j d h1
      exact ⟨w, y1, y2.pres R.lo pres⟩
    · obtain ⟨a, y1, ⟨u0, xs, ds, y4, y5, y6⟩, y3⟩ := R.own j l false d h1
      have ha : H' a = some u0 := er.step.fr a _ y5 (keepA j _ _ _ a h1 y1 hj)
      refine ⟨.ref a, y1, .lst (fun z => ?_) ha y4 (y6.pres R.lo pres)⟩
      rcases z with (z | z) | ⟨i, l', p', d', z1, z2⟩
      · exact y3 (.inl z)
      · rw [er.new a z] at y5
        cases y5
      · obtain ⟨d0, z3, _⟩ := ownN i l' p' d' z1
        have hij := R.apart i j a _ _ _ _ _ _ z3 h1 z2 y1
        subst hij
        rw [h] at z1
        cases z1
  · -- a list of its own
    obtain ⟨d0, h3, h4⟩ := ownN j l p d h
    obtain ⟨a, y1, y2, y3⟩ := R.own j l p d0 h3
    rcases h4 with ⟨hj, rfl⟩ | ⟨k, k1, k2, _, k3⟩
    · obtain ⟨u0, xs, ds, y4, y5, y6⟩ := y2
      have ha : H' a = some u0 := er.step.fr a _ y5 (keepA j _ _ _ a h3 y1 hj)
      refine ⟨a, y1, ⟨u0, xs, ds, y4, ha, y6.pres R.lo pres⟩, fun z => ?_⟩
      rcases z with z | z
      · exact y3 (.inl z)
      · rw [er.new a z] at y5
        cases y5
    · obtain ⟨b, x1, ⟨u0, xs, ds, x4, x5, x6⟩, x3⟩ := er.rel.own k false true d k3
      obtain ⟨w, u1, u2⟩ := q.get k2
      have u3 : σ[j]? = some (some w) := u2
      rw [y1] at u3
      cases u3
      rw [start_get u1] at x1
      cases x1
      refine ⟨a, y1, ⟨u0, xs, ds, x4, x5, rvs (fun hb => flatSl_of (Bool.and_eq_true_iff.mp hb).2 k3 x4) x6⟩, fun z => ?_⟩
      rcases z with z | z
      · exact y3 (.inl z)
      · exact x3 (.inr z)
  · obtain ⟨d0, h3, _⟩ := ownN i _ _ _ h1
    obtain ⟨d0', h3', _⟩ := ownN j _ _ _ h2
    exact R.apart i j a _ _ _ _ _ _ h3 h3' s1 s2
  · have h1 : n1[j]? = some (.exc c pl) := by
      by_cases hj : j ∈ plSl ios os
      · rcases f2 j hj with h2 | ⟨d2, _, h2⟩
        · rw [← h2]; exact h
        · rw [h] at h2; cases h2
      · rw [← f1 j hj]; exact h
    by_cases hj : j ∈ ioSl ios os
    · obtain ⟨k, k1, k2⟩ := ioSl_of hj
      obtain ⟨pr, d0, d', _, _, q3⟩ := b2 k j k1 k2
      rw [h1] at q3
      cases q3
    · rw [b1 j hj] at h1
      exact R.noexc j c pl h1
  · rcases h with h | h
    · obtain ⟨xs, hx, mu0⟩ := R0 a h
      exact ⟨xs, er.step.fr a _ hx fun m => notE a h (muN a m).exc, mu0⟩
    · obtain ⟨d, rfl⟩ := tmp_of_ne h
      obtain ⟨b, e, u0, xs, ds, c0, z, _⟩ := er.op
      have h' : v = .ref a := h
      rw [h'] at e
      cases e
      exact ⟨u0, z, xs, ds, _, c0⟩
  · cases r with
    | s i => exact absurd rfl (hr i)
    | v d =>
      have op : RV K H' _ v d := er.op
      cases hb : (flatR (.v d) && fin.all flatSl) with
      | true => exact RV.flat (Bool.and_eq_true_iff.mp hb).1 op
      | false => exact RV.anti (an hb) op
    | f d =>
      obtain ⟨a, ea, u0, xs, ds, c0, z1, z2⟩ := er.op
      exact ⟨a, ea, u0, xs, ds, c0, z1, rvs (fun hb => by
        have hf := (Bool.and_eq_true_iff.mp hb).1
        cases c0 with
        | lst => exact hf
        | dct _ => cases hf) z2⟩
  · -- handed in names
    have h1 : ∃ d', n1[i]? = some (.own l true d') := by
      by_cases hj : i ∈ ioSl ios os
      · obtain ⟨k, k1, k2⟩ := ioSl_of hj
        obtain ⟨pr, d0, d', q1, _, q3⟩ := b2 k i k1 k2
        rw [h] at q1
        cases q1
        exact ⟨d', q3⟩
      · exact ⟨d, by rw [b1 i hj]; exact h⟩
    obtain ⟨d', h1⟩ := h1
    have h2 : n2[i]? = n1[i]? := by
      by_cases hj : i ∈ plSl ios os
      · rcases f2 i hj with h2 | ⟨d2, h2, _⟩
        · exact h2
        · rcases h2 with ⟨l', h2⟩ | h2 <;> (rw [h1] at h2; cases h2)
      · exact f1 i hj
    exact ⟨l, d', by rw [h2]; exact h1, rfl⟩
end
end DM
set_option Elab.async false
set_option linter.all false
set_option maxRecDepth 100000
/-! DM9: calls and methods as expressions. -/
namespace DM
open PySem PySem.Spec PyProof.Rows L2

/-- what a def promises: its run -/
def PostC (G : GX) (Ex : XK) (E : Addr → Prop) (as : List Sl) (vs : List V) (H : Hp) (Q : VK) : Out → Prop
  | .ok fr d fin => ∀ v H', ER G.K E as (vs.map some) H (mkO fr d) fin v H' → Q v H'
  | .err c pl fin => WXR G (fun c d _ H => Ex c d H) E as (vs.map some) H c pl fin (vs.map some)
  | .bad => False
def spF (G : GX) (out : List Sl → Out) (m : Nat) : Sp := fun vs H Q Ex => vs.length = m ∧ ∃ E as, Rel G.K E as (vs.map some) H ∧ PostC G Ex E as vs H Q (out as)
section
variable {X : Cx} {G : GX} {W : WX} {a b c : Expr} {es : List Expr} {pos : Pos} {cf : Cf} {ca cb cc : Ex}
theorem mkO_ns {fr : Bool} {d : PyData} : ∀ i, mkO fr d ≠ .s i := fun i e => by
  cases fr <;> cases e
theorem call_in {E : Addr → Prop} {n0 n : En} {σ : L2.St} {H0 H : Hp} {Q : VK} {f : Nat} {ios : List Bool} {os : List Opd} {vs : List V} {m : Nat} (R0 : Rel G.K E n0 σ H0) (ar : AR G.K E n0 σ H0 os n vs H) (hm : ios.length = m)
    (P : Post G W E n0 σ H0 (fun o n' => ∀ z H', ER G.K E n0 σ H0 o n' z H' → Q z H') (callM cf f ios os n)) : spF G (cf f) m vs H Q (fun c d H' => W c d σ H') := by
  unfold callM at P
  split at P
  · rename_i hc
    obtain ⟨nd, dj⟩ := hc
    have hf : ∀ q, tmps os vs q → ¬ E q := fun q z ze => by
      obtain ⟨xs, e, mut0⟩ := R0.ext q ze
      rw [ar.new q z] at e
      cases e
    have RE : LO H E := fun q z => ar.rel.ext q (.inl z)
    have comp : ∀ {r : Opd} {n2 : En} {v : V} {H' : Hp}, ER G.K E n σ H r n2 v H' → ER G.K E n0 σ H0 r n2 v H' := fun {r n2 v H'} er =>
      ⟨er.rel, er.op, ar.step.trans er.step, fun q z => by
        cases e : H0 q with
        | none => rfl
        | some w => exact absurd (er.new q z) (ar.step.tr q (by rw [e]; exact fun h => by cases h))⟩
    cases ea : argsOf n ios os with
    | none => rw [ea] at P; exact P.elim
    | some as =>
      rw [ea] at P
      dsimp only at P
      refine ⟨by rw [← ar.ops.length, ← argsOf_len ea]; exact hm, EC E n σ os, as, args_rel RE ar.rel ar.ops hf nd dj ea, ?_⟩
      cases ec : cf f as with
      | bad => rw [ec] at P; exact P.elim
      | ok fr d fin =>
        rw [ec] at P
        dsimp only at P
        intro v H' er
        cases eb : backIO ios os fin n with
        | none => rw [eb] at P; exact P.elim
        | some n1 =>
          rw [eb] at P
          dsimp only at P
          cases ez : freezeUnless (flatR (mkO fr d) && fin.all flatSl) (plSl ios os) n1 with
          | none => rw [ez] at P; exact P.elim
          | some n2 =>
            rw [ez] at P
            exact P v H' (comp (call_back RE ar.rel ar.ops nd dj ea mkO_ns er eb ez))
      | err c pl fin =>
        rw [ec] at P
        dsimp only at P
        intro H' dx fs vp r s h1 h2 h3 h4
        cases eb : backIO ios os fin n with
        | none => rw [eb] at P; exact P.elim
        | some n1 =>
          rw [eb] at P
          dsimp only at P
          cases ez : freezeUnless (flatR (.v pl) && fin.all flatSl) (plSl ios os) n1 with
          | none => rw [ez] at P; exact P.elim
          | some n2 =>
            rw [ez] at P
            have er : ER G.K (EC E n σ os) as (vs.map some) H (.v pl) fin vp H' := ⟨r.weak fun q z => z.elim id False.elim, RV.anti (fun q z => z.imp (fun z => z.elim id False.elim) id) h3, s, fun _ z => z.elim⟩
            have er2 := comp (call_back RE ar.rel ar.ops nd dj ea (fun i => fun e => by cases e) er eb ez)
            exact P H' dx fs vp (er2.rel.weak fun q z => .inl z) er2.step h1 h2 (RV.anti (fun q z => z.imp .inl id) er2.op) h4
  · exact P.elim
theorem se_call {k : Nat} {f : Addr} {fd : FuncData} {ps : List Str} {x : Str} {p : Pos} {fi : Nat} {ios : List Bool} (tk : Takes X W) (F : FnOk X.prog X.w X.K X.mg X.base (L2.CX X.prog X.w) k f fd ps (spF G (cf fi) ps.length)) (hr : Room k X.A) (hg : Gl X x) (hm : X.mg x = some (.ref f))
    (hk : PySem.W.keepIn X.K (.ref f) = true) (hb : Binds X.K fd ps []) (hdb : (x == ("__debug__" : Str)) = false) (hp : Plain X a es pos) (h : SA X G W (a :: es) (evs cf ca)) (hl : ios.length = ps.length) : SE X G W (.Call (.Name x p) (a :: es) [] pos) (ev cf (.call fi ios ca)) := by
  refine (pe_callSD (E := fun σ c d H => W c d σ H) F hr hg hm hk hb .nil (fun σ => passAt tk σ) h hdb hp.1 hp.2).le fun σ H Q ⟨E, n, R, P⟩ => ?_
  refine ⟨E, n, R, (post_bnd.mp P).mono fun os n1 eo P1 vs H1 ar => ?_⟩
  dsimp only
  rw [List.append_nil]
  exact call_in R ar hl P1

/-! ### a list of one's own, changed -/
theorem Rel.changedC {K : PySem.W.Frag} {E : Addr → Prop} {n : En} {σ : L2.St} {H : Hp} {i : Nat} {pr : Bool} {d0 e0 : PyData} {u1 : HO} {es : List PyData} {zs : List V} {p : Addr} (R : Rel K E n σ H) (hs : n[i]? = some (.own false pr d0)) (hσ : σ[i]? = some (some (.ref p))) (c1 : Cel u1 zs es e0) (hz : RVs K H (OE E n σ) zs es) :
    Rel K E (n.set i (.own false pr e0)) σ (upd H p u1) ∧ Step n σ H (n.set i (.own false pr e0)) σ (upd H p u1) ∧ Pres H (OE E n σ) (upd H p u1) (OE E (n.set i (.own false pr e0)) σ) := by
  have hi : i < n.length := (List.getElem?_eq_some_iff.mp hs).1
  have get : ∀ j, (n.set i (.own false pr e0))[j]? = if i = j then some (.own false pr e0) else n[j]? := fun j => by
    rw [List.getElem?_set]
    split
    · rename_i e
      subst e
      first | rfl | rw [if_pos hi]
    · rfl
  have ow : ∀ (j : Nat) l p d, (n.set i (.own false pr e0))[j]? = some (.own l p d) → ∃ d0, n[j]? = some (.own l p d0) ∧ (j ≠ i → d0 = d) := fun j l p d h => by
    rw [get] at h
    split at h
    · rename_i e
      subst e
      cases h
      exact ⟨_, hs, fun z => absurd rfl z⟩
    · exact ⟨d, h, fun _ => rfl⟩
  have ex : ∀ a, Exc (n.set i (.own false pr e0)) σ a → Exc n σ a := fun a ⟨j, l, q, d, h1, h2⟩ => by
    obtain ⟨d0, h3, _⟩ := ow j l q d h1
    exact ⟨j, l, q, d0, h3, h2⟩
  have mu : ∀ a, Mu (n.set i (.own false pr e0)) σ a → Mu n σ a := fun a ⟨j, q, d, h1, h2⟩ => by
    obtain ⟨d0, h3, _⟩ := ow j false q d h1
    exact ⟨j, q, d0, h3, h2⟩
  have mup : Mu n σ p := ⟨i, pr, _, hs, hσ⟩
  have keep : ∀ a o, H a = some o → a ≠ p → (upd H p u1) a = some o := fun a o h hne => by rw [upd_ne hne]; exact h
  have pres : Pres H (OE E n σ) (upd H p u1) (OE E (n.set i (.own false pr e0)) σ) := ⟨fun a o h ho => keep a o h fun e => ho (by rw [e]; exact .inr mup.exc), fun a h => .inl (h.imp id (ex a))⟩
  have hE : ¬ E p := by
    obtain ⟨b, y1, _, y3⟩ := R.own i false pr _ hs
    rw [hσ] at y1
    cases y1
    exact y3
  refine ⟨⟨by rw [List.length_set]; exact R.len, fun j d h => ?_, fun j l q d h => ?_, fun j k a _ _ _ _ _ _ h1 h2 s1 s2 => ?_, fun j c pl h => ?_, fun a h => ?_⟩, ⟨fun a o h m => keep a o h fun e => m (by rw [e]; exact mup), fun a h => ?_, fun a h => .inl (mu a h), fun a h => .inl (ex a h), fun j l d h => ?_, fun j q d h => ?_⟩, pres⟩
  · rw [get] at h
    split at h
    · cases h
    · obtain ⟨w, h1, h2⟩ := R.val j d h
      exact ⟨w, h1, h2.pres R.lo pres⟩
  · rw [get] at h
    split at h
    · rename_i e
      subst e
      cases h
      exact ⟨p, hσ, ⟨u1, zs, es, c1, upd_same, hz.pres R.lo pres⟩, hE⟩
    · rename_i hne
      obtain ⟨a, h1, ⟨u0, xs', ds', h4, h5, h6⟩, h3⟩ := R.own j l q d h
      refine ⟨a, h1, ⟨u0, xs', ds', h4, keep a _ h5 fun e => ?_, h6.pres R.lo pres⟩, h3⟩
      subst e
      exact hne (R.apart i j a _ _ _ _ _ _ hs h hσ h1)
  · obtain ⟨_, h3, _⟩ := ow j _ _ _ h1
    obtain ⟨_, h4, _⟩ := ow k _ _ _ h2
    exact R.apart j k a _ _ _ _ _ _ h3 h4 s1 s2
  · rw [get] at h
    split at h
    · cases h
    · exact R.noexc j c pl h
  · obtain ⟨ys, e, mut0⟩ := R.ext a h
    exact ⟨ys, keep a _ e fun q => hE (by rw [← q]; exact h), mut0⟩
  · by_cases e : a = p
    · subst e
      rw [upd_same]
      exact fun z => by cases z
    · rw [upd_ne e]
      exact h
  · rw [get]
    split
    · rename_i e
      subst e
      rw [hs] at h
      cases h
      exact ⟨false, _, rfl, rfl⟩
    · exact ⟨l, d, h, rfl⟩
  · rw [get] at h
    split at h
    · cases h
    · exact ⟨d, h, rfl⟩
theorem Rel.changed {K : PySem.W.Frag} {E : Addr → Prop} {n : En} {σ : L2.St} {H : Hp} {i : Nat} {pr : Bool} {ds es : List PyData} {xs zs : List V} {p : Addr} (R : Rel K E n σ H) (hs : n[i]? = some (.own false pr (.list ds))) (hσ : σ[i]? = some (some (.ref p))) (_ : H p = some (.lst xs)) (hz : RVs K H (OE E n σ) zs es) :
    Rel K E (n.set i (.own false pr (.list es))) σ (upd H p (.lst zs)) ∧ Step n σ H (n.set i (.own false pr (.list es))) σ (upd H p (.lst zs)) ∧ Pres H (OE E n σ) (upd H p (.lst zs)) (OE E (n.set i (.own false pr (.list es))) σ) := R.changedC hs hσ .lst hz
/-- a method's work on a list of one's own, by values: r is what the layer's rule asks -/
theorem change_ok {E E1 : Addr → Prop} {n n1 : En} {σ : L2.St} {H H1 : Hp} {o : Opd} {v : V} {f : List PyData → Option (PyData × List PyData)} {Q : VK} (R : Rel G.K E1 n1 σ H1) (st : Step n σ H n1 σ H1) (hE : ∀ a, E a → E1 a) (oo : Od G.K H1 (OE E1 n1 σ) σ o v)
    (P : Post G W E n σ H (fun o n' => ∀ z H', ER G.K E n σ H o n' z H' → Q z H') (change o f n1)) :
    ∃ p xs ds g ys, v = .ref p ∧ H1 p = some (.lst xs) ∧ RVs G.K H1 (OE E1 n1 σ) xs ds ∧ f ds = some (g, ys) ∧ ∀ (z : V) (zs : List V), RV G.K H1 (OE E1 n1 σ) z g → RVs G.K H1 (OE E1 n1 σ) zs ys → Q z (upd H1 p (.lst zs)) := by
  cases o with
  | v d => exact P.elim
  | f d => exact P.elim
  | s i =>
    simp only [change] at P
    split at P
    · rename_i pr ds hs
      obtain ⟨p, h1, ⟨u0, xs, ds', c0, h5, h6⟩, h3⟩ := R.own i false pr _ hs
      cases c0
      have oo' : σ[i]? = some (some v) := oo
      rw [h1] at oo'
      cases oo'
      split at P
      · rename_i g ys hf
        refine ⟨p, xs, ds, g, ys, rfl, h5, h6, hf, fun z zs hz hzs => P z _ ?_⟩
        obtain ⟨r2, s2, p2⟩ := R.changed hs h1 h5 hzs
        exact ⟨r2.weak fun a q => q.elim (hE a) False.elim, RV.anti (fun a q => q.imp (fun q => q.elim (hE a) False.elim) id) (hz.pres R.lo p2), st.trans s2, fun _ q => q.elim⟩
      · exact P.elim
    · exact P.elim

/-! ### methods: the rules by values -/
/-- the place of an item, how many there are -/
def rAsk (q : List V → Addr → Hp → Prop) (g : List PyData → PyData → Option PyData) (K : PySem.W.Frag) : V → List V → Hp → VK → Prop := fun x vs H Q => ∃ (p : Addr) (y : V) (ys : List V) (ds : List PyData) (d : PyData) (i : Int), x = .ref p ∧ vs = [y] ∧ q ys p H ∧ DpAll K H ys ds ∧ Dp K H y d ∧ dok (.list ds) = true ∧ dok d = true ∧ g ds d = some (.int i) ∧ Q (.int i) H
theorem room_ask (hu : X.A.units + 64 < cLine) {ds : List PyData} {d : PyData} (h1 : dok (.list ds) = true) (h2 : dok d = true) : PyData.plainAll ds = true ∧ d.plain = true ∧ X.A.units + 1 + min (PyData.depthAll ds) d.depth < cLine := by
  have a := dok_depth h2
  exact ⟨by simpa [PyData.plain] using dok_plain h1, dok_plain h2, by omega⟩
theorem idx_place {ds : List PyData} {d : PyData} {i : Int} (h : idxM ds d = some (.int i)) : ∃ j : Nat, SeqAt.dataPlace ds d = some j ∧ i = (j : Int) := by
  unfold idxM at h
  split at h
  · cases e : SeqAt.dataPlace ds d with
    | none => rw [e] at h; cases h
    | some j => rw [e] at h; cases h; exact ⟨j, rfl, rfl⟩
  · cases h
theorem cnt_eq {ds : List PyData} {d : PyData} {i : Int} (h : cntM ds d = some (.int i)) : i = ((ds.countP fun y => PyData.eqv y d : Nat) : Int) := by
  unfold cntM at h
  split at h
  · cases h; rfl
  · cases h
theorem mt_idxL (hu : X.A.units + 64 < cLine) : MtR X "list.index" (rAsk (fun ys p H => SqL X.K H p ys) idxM X.K) := by
  intro pins s σ H x xs v us Q J rx rs ⟨p, y, ys, ds, d, i, e1, e2, hq, hds, hd, k1, k2, hg, w⟩
  subst e1 e2
  cases rx
  obtain ⟨u, rfl, ru⟩ := rs.one
  obtain ⟨its, rv, pl, le⟩ := J.list hq
  obtain ⟨bs, r1⟩ := Dp.reads J d y u hd ru
  obtain ⟨as, r2⟩ := Dp.readsAll J ds ys its hds rv
  obtain ⟨c1, c2, c3⟩ := room_ask hu k1 k2
  obtain ⟨j, hp, rfl⟩ := idx_place hg
  have r2' : ReadsAll s.heap its.toArray.toList ds as := r2
  obtain ⟨hj, hit, hno⟩ := SeqAt.hit_at r2' c1 hp
  obtain ⟨⟨cl, dd, da, sl⟩, ho, ec, m, ed⟩ := pl.isList
  simp only at ec ed
  subst ec ed
  have big : (j : Int) < 2 ^ 63 - 1 := by
    have := rv.length
    have := sizeLine_eq
    rw [List.size_toArray] at hj
    omega
  exact call_meets F.slot_list_index ⟨_, ho, rfl⟩ F.entry_list_index (F.args_list_index_2 _ _) (SeqAt.list_indexAt p its.toArray m dd sl u _ j hj big hit hno) ⟨ho, SeqAt.items_plain r2' r1 c1 c2 c3, .int (j : Nat), H, J.tok _, ⟨_, rfl⟩, w⟩
theorem mt_idxT (hu : X.A.units + 64 < cLine) : MtR X "tuple.index" (rAsk (fun ys p H => SqT X.K H p ys) idxM X.K) := by
  intro pins s σ H x xs v us Q J rx rs ⟨p, y, ys, ds, d, i, e1, e2, hq, hds, hd, k1, k2, hg, w⟩
  subst e1 e2
  cases rx
  obtain ⟨u, rfl, ru⟩ := rs.one
  obtain ⟨its, rv, pl, le⟩ := J.tuple hq
  obtain ⟨bs, r1⟩ := Dp.reads J d y u hd ru
  obtain ⟨as, r2⟩ := Dp.readsAll J ds ys its hds rv
  obtain ⟨c1, c2, c3⟩ := room_ask hu k1 k2
  obtain ⟨j, hp, rfl⟩ := idx_place hg
  have r2' : ReadsAll s.heap its.toArray.toList ds as := r2
  obtain ⟨hj, hit, hno⟩ := SeqAt.hit_at r2' c1 hp
  obtain ⟨⟨cl, dd, da, sl⟩, ho, ec, m, ed⟩ := pl
  simp only at ec ed
  subst ec ed
  exact call_meets F.slot_tuple_index ⟨_, ho, rfl⟩ F.entry_tuple_index (F.args_tuple_index_2 _ _) (TI.tuple_indexAt p its.toArray m dd sl u _ j hj hit hno) ⟨ho, SeqAt.items_plain r2' r1 c1 c2 c3, .int (j : Nat), H, J.tok _, ⟨_, rfl⟩, w⟩
theorem mt_cntL (hu : X.A.units + 64 < cLine) : MtR X "list.count" (rAsk (fun ys p H => SqL X.K H p ys) cntM X.K) := by
  intro pins s σ H x xs v us Q J rx rs ⟨p, y, ys, ds, d, i, e1, e2, hq, hds, hd, k1, k2, hg, w⟩
  subst e1 e2
  cases rx
  obtain ⟨u, rfl, ru⟩ := rs.one
  obtain ⟨its, rv, pl, le⟩ := J.list hq
  obtain ⟨bs, r1⟩ := Dp.reads J d y u hd ru
  obtain ⟨as, r2⟩ := Dp.readsAll J ds ys its hds rv
  obtain ⟨c1, c2, c3⟩ := room_ask hu k1 k2
  rw [cnt_eq hg] at w
  exact SeqAt.count_list_data pl.isList (show ReadsAll s.heap its.toArray.toList ds as from r2) r1 c1 c2 c3 ⟨.int _, H, J.tok _, ⟨_, rfl⟩, w⟩
theorem mt_cntT (hu : X.A.units + 64 < cLine) : MtR X "tuple.count" (rAsk (fun ys p H => SqT X.K H p ys) cntM X.K) := by
  intro pins s σ H x xs v us Q J rx rs ⟨p, y, ys, ds, d, i, e1, e2, hq, hds, hd, k1, k2, hg, w⟩
  subst e1 e2
  cases rx
  obtain ⟨u, rfl, ru⟩ := rs.one
  obtain ⟨its, rv, pl, le⟩ := J.tuple hq
  obtain ⟨bs, r1⟩ := Dp.reads J d y u hd ru
  obtain ⟨as, r2⟩ := Dp.readsAll J ds ys its hds rv
  obtain ⟨c1, c2, c3⟩ := room_ask hu k1 k2
  rw [cnt_eq hg] at w
  exact SeqAt.count_tuple_data pl (show ReadsAll s.heap its.toArray.toList ds as from r2) r1 c1 c2 c3 ⟨.int _, H, J.tok _, ⟨_, rfl⟩, w⟩
def rRem (K : PySem.W.Frag) : V → List V → Hp → VK → Prop := fun x vs H Q => ∃ (p : Addr) (y : V) (ys : List V) (ds : List PyData) (d : PyData) (j : Nat), x = .ref p ∧ vs = [y] ∧ H p = some (.lst ys) ∧ DpAll K H ys ds ∧ Dp K H y d ∧ dok (.list ds) = true ∧ dok d = true ∧ SeqAt.dataPlace ds d = some j ∧ Q .non (upd H p (.lst (ys.eraseIdx j)))
theorem mt_rem (hu : X.A.units + 64 < cLine) : MtR X "list.remove" (rRem X.K) := by
  intro pins s σ H x xs v us Q J rx rs ⟨p, y, ys, ds, d, j, e1, e2, hq, hds, hd, k1, k2, hp, w⟩
  subst e1 e2
  cases rx
  obtain ⟨u, rfl, ru⟩ := rs.one
  obtain ⟨le, its, m, rv, hl, ho⟩ := J.lstM hq
  obtain ⟨bs, r1⟩ := Dp.reads J d y u hd ru
  obtain ⟨as, r2⟩ := Dp.readsAll J ds ys its hds rv
  obtain ⟨c1, c2, c3⟩ := room_ask hu k1 k2
  refine SeqAt.remove_list_data (vs := its.toArray) ⟨_, ho, rfl, m, rfl⟩ (show ReadsAll s.heap its.toArray.toList ds as from r2) r1 c1 c2 c3 hp (by rw [List.size_toArray, ← hl]; exact le) ?_
  refine ⟨.non, _, J.lset (its' := its.eraseIdx j) (t' := s.toks) hq ho (by rw [List.eraseIdxIfInBounds_toArray]) (rv.eraseIdx j) ?_, rfl, w⟩
  have := len_erase ys j
  omega

/-! ### methods: calls -/
/-- the shape of a call of a method, as the layer's rules ask it -/
structure MOk (X : Cx) (o : Expr) (name : Str) (apos cpos : Pos) (e : Expr) (es : List Expr) : Prop where
  base : attributeBase o name X.env (eval o X.env) = eval o X.env
  few : ((backTo cpos (starEach (e :: es) X.env)).all (fun x => !x.1) && (backToKw cpos (keywordEach [] X.env)).all (fun x => x.1.isSome)
      && decide ((e :: es).length + ([] : List Keyword).length + (if ([] : List Keyword).isEmpty then 0 else 1) < 30)) = true
  line : (apos.endLine == cpos.line) = true
  plain : Plain X e es cpos
structure MOk0 (X : Cx) (o : Expr) (name : Str) (apos cpos : Pos) : Prop where
  base : attributeBase o name X.env (eval o X.env) = eval o X.env
  line : (apos.endLine == cpos.line) = true
/-- on a tuple without a dict -/
def tBMT (K : PySem.W.Frag) (r : V → List V → Hp → VK → Prop) (to : TE) (t : TA) : TE := fun σ H Q => to σ H fun x H1 => (∃ p xs, x = .ref p ∧ TD K H1 p xs) ∧ t σ H1 fun xs H2 => r x xs H2 Q
theorem TD.is {pins : List (Addr × Obj)} {σ : L2.St} {H : Hp} {s : Shared} {p : Addr} {xs : List V} (J : Inv X pins σ H s) (h : TD X.K H p xs) : s.TypeIs (.ref p) "tuple" ∧ ∀ a, Value.ref p = .ref a → ∃ ob, s.heap.get? a = some ob ∧ ob.dict = none := by
  rcases h with ⟨ob, h, hd⟩ | ⟨ob, us, m, h1, h2, h3, _⟩
  · obtain ⟨e, _, _, _, o2, e2, hc, _⟩ := J.hok p _ h
    rw [e] at e2
    cases e2
    exact ⟨⟨ob, e, hc⟩, fun a q => by cases q; exact ⟨ob, e, hd⟩⟩
  · have e := J.kIn p ob h1
    exact ⟨⟨ob, e, h2⟩, fun a q => by cases q; exact ⟨ob, e, h3⟩⟩
theorem pe_bmT {o e : Expr} {name : Str} {apos cpos : Pos} {id : String} {r : V → List V → Hp → VK → Prop} {to : TE} {t : TA} (slot : Slot "tuple" name id) (hty : typeOf (.builtin id) = pure (.type "method_descriptor")) (hm : MtR X id r) (ho : PE X o to) (ha : PA X (e :: es) t) (ok : MOk X o name apos cpos e es) :
    PE X (.Call (.Attribute o name apos) (e :: es) [] cpos) (tBMT X.K r to t) := by
  refine ⟨fun pins s σ H Q J w => ?_⟩
  refine wpAny_Call_method_late ok.base ok.few ok.line rfl (thn (ho.run pins s σ H _ J w) fun v s1 ⟨x, H1, J1, r1, ⟨p, ys, ex, ht⟩, w1⟩ => ?_)
  subst ex
  cases r1
  obtain ⟨t1, t2⟩ := ht.is J1
  refine ⟨"tuple", id, F.plainAttrs_tuple, slot, hty, t1, t2, ?_⟩
  have args := ha.run cpos pins s1 σ H1 _ J1 w1
  rw [ok.plain.1] at args ⊢
  refine Calls.callWith_builtin ?_ (Calls.evalArgs_plain (thn args fun us s2 ⟨vs, H2, J2, r2, w2⟩ => hm pins s2 σ H2 (.ref p) vs _ us Q J2 rfl r2 w2))
  exact ok.plain.2
/-- the receiver, then the arguments: what is known behind -/
structure MB (G : GX) (W : WX) (E : Addr → Prop) (n : En) (σ : L2.St) (H : Hp) (E1 : Addr → Prop) (n1 : En) (H1 : Hp) (n2 : En) (H2 : Hp) (x : Opd) (v : V) (os : List Opd) (vs : List V) : Prop where
  up : ∀ a, E a → E1 a
  rel : Rel G.K E1 n1 σ H1
  step : Step n σ H n1 σ H1
  ox : Od G.K H1 (OE E1 n1 σ) σ x v
  tx : ∀ a, tmp x v a → E1 a
  ar : AR G.K E1 n1 σ H1 os n2 vs H2
theorem mth_tag {m : Mf} {co : Ex} {E : Addr → Prop} {n : En} {σ : L2.St} {H : Hp} {P : Opd → En → Prop} (h : Post G W E n σ H P (ev cf (.mth m co ca) n)) :
    (∃ c pl n', ev cf co n = .err c pl n') ∨ ∃ x n1 d n2, ev cf co n = .ok x n1 ∧ rd x n1 = .ok d n2 ∧ mthOk m (tagOf d) = true := by
  have h1 := post_bnd.mp (show Post G W E n σ H P (bnd (ev cf co) _ n) from h)
  cases e : ev cf co n with
  | bad => rw [e] at h1; exact h1.elim
  | err c pl n' => exact .inl ⟨c, pl, n', rfl⟩
  | ok x n1 =>
    rw [e] at h1
    obtain ⟨d, n2, e2, h2⟩ := Post.pure (post_bnd.mp h1) fun _ _ _ => rd_noerr
    refine .inr ⟨x, n1, d, n2, rfl, e2, ?_⟩
    cases hm : mthOk m (tagOf d) with
    | true => rfl
    | false => rw [hm] at h2; exact h2.elim
/-- the run of a method's call, with what is known of its receiver's kind -/
theorem mth_run {m : Mf} {co : Ex} {σ : L2.St} {H : Hp} {Q : VK} {E : Addr → Prop} {n : En} (tg : Tag) {ty : V → Hp → Prop} {r : V → List V → Hp → VK → Prop} (R : Rel G.K E n σ H) (P : Post G W E n σ H (fun o n' => ∀ z H', ER G.K E n σ H o n' z H' → Q z H') (ev cf (.mth m co ca) n))
    (htg : ∀ x n1 d n2, ev cf co n = .ok x n1 → rd x n1 = .ok d n2 → mthOk m (tagOf d) = true → tagOf d = tg) (hty : ∀ H O v d, RT G.K H O v d → tagOf d = tg → ty v H)
    (hk : ∀ E1 n1 H1 n2 H2 x v os vs, MB G W E n σ H E1 n1 H1 n2 H2 x v os vs → Post G W E n σ H (fun o n' => ∀ z H', ER G.K E n σ H o n' z H' → Q z H') (mthM m tg x os n2) → r v vs H2 Q) :
    tE G W (ev cf co) σ H fun x H1 => ty x H1 ∧ tA G W (evs cf ca) σ H1 fun xs H2 => r x xs H2 Q := by
  refine ⟨E, n, R, (post_bnd.mp (show Post G W E n σ H _ (bnd (ev cf co) _ n) from P)).mono fun x n1 e1 P1 v H1 er => ?_⟩
  obtain ⟨d, n2, e2, P2⟩ := Post.pure (post_bnd.mp P1) fun _ _ _ => rd_noerr
  obtain ⟨en, hd⟩ := rd_ok er.rel er.op e2
  rw [en] at P2 e2
  cases hm : mthOk m (tagOf d) with
  | false => rw [hm] at P2; exact P2.elim
  | true =>
    rw [hm, if_pos rfl] at P2
    have ht := htg x n1 d n1 e1 e2 hm
    rw [ht] at P2
    exact ⟨hty H1 _ v d hd ht, _, n1, er.rel, (post_bnd.mp P2).imp (fun os n3 _ P3 vs H2 ar => hk _ n1 H1 n3 H2 x v os vs ⟨er.up, er.rel, er.step, er.op, fun a q => .inr q, ar⟩ P3) fun c pl n' z => z.later er.step er.up⟩
theorem tag_lst {d : PyData} (h : tagOf d = .lst) : ∃ ds, d = .list ds := by
  cases d with
  | list ds => exact ⟨ds, rfl⟩
  | _ => cases h
theorem tag_tup {d : PyData} (h : tagOf d = .tup) : ∃ ds, d = .tuple ds := by
  cases d with
  | tuple ds => exact ⟨ds, rfl⟩
  | _ => cases h
theorem lst_ty {K : PySem.W.Frag} {H : Hp} {O : Addr → Prop} {v : V} {d : PyData} (h : RT K H O v d) (e : tagOf d = .lst) : tyV K "list" v H := by
  obtain ⟨ds, rfl⟩ := tag_lst e
  obtain ⟨a, xs, rfl, h1, _⟩ := h.list
  exact .inl ⟨rfl, xs, .inl (.inl h1)⟩
/-- behind: the arguments kept -/
theorem mb_keeps {E : Addr → Prop} {n : En} {σ : L2.St} {H : Hp} {E1 : Addr → Prop} {n1 : En} {H1 : Hp} {n2 : En} {H2 : Hp} {x : Opd} {v : V} {os : List Opd} {vs : List V} {k : List PyData → M Opd} {Q : VK} (mb : MB G W E n σ H E1 n1 H1 n2 H2 x v os vs) (P : Post G W E n σ H (fun o n' => ∀ z H', ER G.K E n σ H o n' z H' → Q z H') (bnd (keeps os) k n2)) :
    ∃ ds n3, Rel G.K E1 n3 σ H2 ∧ RVs G.K H2 (OE E1 n3 σ) vs ds ∧ Step n σ H n3 σ H2 ∧ Od G.K H2 (OE E1 n3 σ) σ x v ∧ Post G W E n σ H (fun o n' => ∀ z H', ER G.K E n σ H o n' z H' → Q z H') (k ds n3) := by
  obtain ⟨ds, n3, r, rv, s, P2⟩ := post_keepsB mb.ar mb.rel P
  exact ⟨ds, n3, r, rv, mb.step.trans s, mb.ox.carry mb.rel s (fun a q => .inl q) mb.tx, P2⟩
/-- .. read alone -/
theorem mb_ask {E : Addr → Prop} {n : En} {σ : L2.St} {H : Hp} {E1 : Addr → Prop} {n1 : En} {H1 : Hp} {n2 : En} {H2 : Hp} {x : Opd} {v : V} {os : List Opd} {vs : List V} {g : List PyData → PyData → Option PyData} {tg : Tag} {Q : VK} (mb : MB G W E n σ H E1 n1 H1 n2 H2 x v os vs) (P : Post G W E n σ H (fun o n' => ∀ z H', ER G.K E n σ H o n' z H' → Q z H') (askM g tg x os n2))
    (hg : ∀ xs d r, g xs d = some r → dok (.list xs) = true ∧ dok d = true ∧ ∃ i, r = .int i) :
    ∃ (O : Addr → Prop) (d : PyData) (xs : List PyData) (y : V) (e : PyData) (i : Int), RT G.K H2 O v d ∧ seqT tg d = some xs ∧ vs = [y] ∧ RT G.K H2 O y e ∧ dok (.list xs) = true ∧ dok e = true ∧ g xs e = some (.int i) ∧ Q (.int i) H2 := by
  have ox : Od G.K H2 (OE (orP E1 (tmps os vs)) n2 σ) σ x v := mb.ox.carry mb.rel mb.ar.step (fun a q => q.imp id fun q => mb.ar.new a q) mb.tx
  obtain ⟨d, hd, P⟩ := post_rd mb.ar.rel ox P
  obtain ⟨es, hes, P⟩ := post_rds mb.ar.rel mb.ar.ops P
  match es, hes, P with
  | [], _, P => exact P.elim
  | _ :: _ :: _, _, P => exact P.elim
  | [e], .cons (v := y) he .nil, P =>
    obtain ⟨xs, hx, P⟩ := post_opt P
    obtain ⟨r, hr, P⟩ := post_opt P
    obtain ⟨k1, k2, i, rfl⟩ := hg xs e r hr
    exact ⟨_, d, xs, y, e, i, hd, hx, rfl, he, k1, k2, hr, P _ _ (ER.fin mb.ar.rel (mb.step.trans mb.ar.step) (fun a q => .inl (mb.up a q)) (PR.val (.int i)))⟩
section
variable {m : Mf} {co : Ex} {o e : Expr} {name : Str} {apos cpos : Pos} {id : String}
theorem only_lst (hm : ∀ t, mthOk m t = true → t = .lst) {x : Opd} {n n1 n2 : En} {d : PyData} (_ : ev cf co n = .ok x n1) (_ : rd x n1 = .ok d n2) (k : mthOk m (tagOf d) = true) : tagOf d = .lst := hm _ k
theorem se_append (hK : X.K = G.K) (ho : SE X G W o (ev cf co)) (ha : SA X G W (e :: es) (evs cf ca)) (ok : MOk X o "append" apos cpos e es) : SE X G W (.Call (.Attribute o "append" apos) (e :: es) [] cpos) (ev cf (.mth .append co ca)) := by
  refine (pe_bm F.plainAttrs_list F.slot_list_append F.type_list_append mt_append ho ha ok.base ok.few ok.line ok.plain.1 ok.plain.2).le fun σ H Q ⟨E, n, R, P⟩ => ?_
  unfold tBM
  rw [hK]
  refine mth_run .lst (ty := tyV G.K "list") (r := rAppend) R P (fun _ _ _ _ => only_lst fun t h => by cases t <;> first | rfl | cases h) (fun _ _ _ _ => lst_ty) fun E1 n1 H1 n2 H2 x v os vs mb P => ?_
  obtain ⟨ds, n3, r3, rv, s3, o3, P⟩ := mb_keeps mb P
  match ds, rv, P with
  | [], _, P => exact P.elim
  | _ :: _ :: _, _, P => exact P.elim
  | [d], .cons (v := y) hy .nil, P =>
    obtain ⟨p, xs, zs, g, ys, rfl, h1, h2, hf, q⟩ := change_ok r3 s3 mb.up o3 P
    unfold appF at hf
    split at hf
    · rename_i hl
      cases hf
      exact ⟨p, xs, y, rfl, rfl, h1, by rw [h2.length]; exact hl, q _ _ .non (h2.append (.cons hy .nil))⟩
    · cases hf
theorem se_popAt (hK : X.K = G.K) (ho : SE X G W o (ev cf co)) (ha : SA X G W (e :: es) (evs cf ca)) (ok : MOk X o "pop" apos cpos e es) : SE X G W (.Call (.Attribute o "pop" apos) (e :: es) [] cpos) (ev cf (.mth .popAt co ca)) := by
  refine (pe_bm F.plainAttrs_list F.slot_list_pop F.type_list_pop mt_popAt ho ha ok.base ok.few ok.line ok.plain.1 ok.plain.2).le fun σ H Q ⟨E, n, R, P⟩ => ?_
  unfold tBM
  rw [hK]
  refine mth_run .lst (ty := tyV G.K "list") (r := rPopAt) R P (fun _ _ _ _ => only_lst fun t h => by cases t <;> first | rfl | cases h) (fun _ _ _ _ => lst_ty) fun E1 n1 H1 n2 H2 x v os vs mb P => ?_
  obtain ⟨ds, n3, r3, rv, s3, o3, P⟩ := mb_keeps mb P
  match ds, rv, P with
  | [], _, P => exact P.elim
  | d :: _ :: _, _, P => cases d <;> exact P.elim
  | [.none], _, P => exact P.elim
  | [.bool _], _, P => exact P.elim
  | [.str _], _, P => exact P.elim
  | [.tuple _], _, P => exact P.elim
  | [.list _], _, P => exact P.elim
  | [.dict _], _, P => exact P.elim
  | [.int i], .cons (v := y) hy .nil, P =>
    cases hy.i
    obtain ⟨p, xs, zs, g, ys, rfl, h1, h2, hf, q⟩ := change_ok r3 s3 mb.up o3 P
    unfold popAtF at hf
    split at hf
    · rename_i hl
      split at hf
      · rename_i k hk
        split at hf
        · rename_i w hw
          cases hf
          obtain ⟨z, hz, hr⟩ := h2.get hw
          exact ⟨p, xs, i, k, z, rfl, rfl, h1, hl.1, hl.2, by rw [h2.length]; exact hk, hz, q _ _ hr (h2.eraseIdx k)⟩
        · cases hf
      · cases hf
    · cases hf
theorem se_insert (hK : X.K = G.K) (ho : SE X G W o (ev cf co)) (ha : SA X G W (e :: es) (evs cf ca)) (ok : MOk X o "insert" apos cpos e es) : SE X G W (.Call (.Attribute o "insert" apos) (e :: es) [] cpos) (ev cf (.mth .insert co ca)) := by
  refine (pe_bm F.plainAttrs_list F.slot_list_insert F.type_list_insert mt_insert ho ha ok.base ok.few ok.line ok.plain.1 ok.plain.2).le fun σ H Q ⟨E, n, R, P⟩ => ?_
  unfold tBM
  rw [hK]
  refine mth_run .lst (ty := tyV G.K "list") (r := fun x vs H Q => ∃ (l : Addr) (xs : List V) (i : Int) (y : V), x = .ref l ∧ vs = [.int i, y] ∧ H l = some (.lst xs) ∧ xs.length < sizeLine ∧ 0 ≤ i ∧ i < 2 ^ 63 ∧ Q .non (upd H l (.lst (xs.take i.toNat ++ [y] ++ xs.drop i.toNat)))) R P (fun _ _ _ _ => only_lst fun t h => by cases t <;> first | rfl | cases h) (fun _ _ _ _ => lst_ty) fun E1 n1 H1 n2 H2 x v os vs mb P => ?_
  obtain ⟨ds, n3, r3, rv, s3, o3, P⟩ := mb_keeps mb P
  match ds, rv, P with
  | [], _, P => exact P.elim
  | [d], _, P => cases d <;> exact P.elim
  | d :: _ :: _ :: _, _, P => cases d <;> exact P.elim
  | [.none, _], _, P => exact P.elim
  | [.bool _, _], _, P => exact P.elim
  | [.str _, _], _, P => exact P.elim
  | [.tuple _, _], _, P => exact P.elim
  | [.list _, _], _, P => exact P.elim
  | [.dict _, _], _, P => exact P.elim
  | [.int i, d], .cons hi (.cons (v := y) hy .nil), P =>
    cases hi.i
    obtain ⟨p, xs, zs, g, ys, rfl, h1, h2, hf, q⟩ := change_ok r3 s3 mb.up o3 P
    unfold insF at hf
    split at hf
    · rename_i hl
      cases hf
      exact ⟨p, xs, i, y, rfl, rfl, h1, by rw [h2.length]; exact hl.1, hl.2.1, hl.2.2, q _ _ .non (((h2.take _).append (.cons hy .nil)).append (h2.drop _))⟩
    · cases hf
theorem se_remove (hK : X.K = G.K) (hu : X.A.units + 64 < cLine) (ho : SE X G W o (ev cf co)) (ha : SA X G W (e :: es) (evs cf ca)) (ok : MOk X o "remove" apos cpos e es) : SE X G W (.Call (.Attribute o "remove" apos) (e :: es) [] cpos) (ev cf (.mth .remove co ca)) := by
  refine (pe_bm F.plainAttrs_list F.slot_list_remove F.type_list_remove (mt_rem hu) ho ha ok.base ok.few ok.line ok.plain.1 ok.plain.2).le fun σ H Q ⟨E, n, R, P⟩ => ?_
  unfold tBM
  rw [hK]
  refine mth_run .lst (ty := tyV G.K "list") (r := rRem G.K) R P (fun _ _ _ _ => only_lst fun t h => by cases t <;> first | rfl | cases h) (fun _ _ _ _ => lst_ty) fun E1 n1 H1 n2 H2 x v os vs mb P => ?_
  obtain ⟨ds, n3, r3, rv, s3, o3, P⟩ := mb_keeps mb P
  match ds, rv, P with
  | [], _, P => exact P.elim
  | _ :: _ :: _, _, P => exact P.elim
  | [d], .cons (v := y) hy .nil, P =>
    obtain ⟨p, xs, zs, g, ys, rfl, h1, h2, hf, q⟩ := change_ok r3 s3 mb.up o3 P
    unfold remF at hf
    split at hf
    · rename_i hl
      obtain ⟨k1, k2⟩ := Bool.and_eq_true_iff.mp hl
      split at hf
      · rename_i j hj
        cases hf
        exact ⟨p, y, xs, zs, d, j, rfl, rfl, h1, h2.dp (by simpa [PyData.plain] using dok_plain k1), hy.dp (dok_plain k2), k1, k2, hj, q _ _ .non (h2.eraseIdx j)⟩
      · cases hf
    · cases hf
theorem tA_none {σ : L2.St} {H : Hp} {q : List V → Hp → Prop} (h : tA G W (evs cf .nil) σ H q) : q [] H := by
  obtain ⟨E, n, R, P⟩ := h
  exact P [] H ⟨R.weak fun a q => q.elim id False.elim, .nil, .refl, fun _ q => q.elim, trivial⟩
theorem se_pop (hK : X.K = G.K) (ho : SE X G W o (ev cf co)) (ok : MOk0 X o "pop" apos cpos) : SE X G W (.Call (.Attribute o "pop" apos) [] [] cpos) (ev cf (.mth .pop co .nil)) := by
  refine (pe_bm0 F.plainAttrs_list F.slot_list_pop F.type_list_pop mt_pop ho ok.base ok.line).le fun σ H Q ⟨E, n, R, P⟩ => ?_
  unfold tBM0
  rw [hK]
  have h := mth_run .lst (ty := tyV G.K "list") (r := rPop) R P (fun _ _ _ _ => only_lst fun t h => by cases t <;> first | rfl | cases h) (fun _ _ _ _ => lst_ty) fun E1 n1 H1 n2 H2 x v os vs mb P => ?_
  · obtain ⟨E, n, R, P⟩ := h
    exact ⟨E, n, R, P.mono fun x n1 _ P1 v H1 er => ⟨(P1 v H1 er).1, tA_none (P1 v H1 er).2⟩⟩
  obtain ⟨ds, n3, r3, rv, s3, o3, P⟩ := mb_keeps mb P
  match ds, rv, P with
  | _ :: _, _, P => exact P.elim
  | [], .nil, P =>
    obtain ⟨p, xs, zs, g, ys, rfl, h1, h2, hf, q⟩ := change_ok r3 s3 mb.up o3 P
    unfold popF at hf
    split at hf
    · rename_i w hw
      cases hf
      obtain ⟨z, hz, hr⟩ := h2.get hw
      exact ⟨p, xs, z, rfl, rfl, h1, by rw [h2.length]; exact hz, q _ _ hr h2.dropLast⟩
    · cases hf
theorem se_reverse (hK : X.K = G.K) (ho : SE X G W o (ev cf co)) (ok : MOk0 X o "reverse" apos cpos) : SE X G W (.Call (.Attribute o "reverse" apos) [] [] cpos) (ev cf (.mth .reverse co .nil)) := by
  refine (pe_bm0 F.plainAttrs_list F.slot_list_reverse F.type_list_reverse mt_reverse ho ok.base ok.line).le fun σ H Q ⟨E, n, R, P⟩ => ?_
  unfold tBM0
  rw [hK]
  have h := mth_run .lst (ty := tyV G.K "list") (r := rReverse) R P (fun _ _ _ _ => only_lst fun t h => by cases t <;> first | rfl | cases h) (fun _ _ _ _ => lst_ty) fun E1 n1 H1 n2 H2 x v os vs mb P => ?_
  · obtain ⟨E, n, R, P⟩ := h
    exact ⟨E, n, R, P.mono fun x n1 _ P1 v H1 er => ⟨(P1 v H1 er).1, tA_none (P1 v H1 er).2⟩⟩
  obtain ⟨ds, n3, r3, rv, s3, o3, P⟩ := mb_keeps mb P
  match ds, rv, P with
  | _ :: _, _, P => exact P.elim
  | [], .nil, P =>
    obtain ⟨p, xs, zs, g, ys, rfl, h1, h2, hf, q⟩ := change_ok r3 s3 mb.up o3 P
    cases hf
    exact ⟨p, xs, rfl, rfl, h1, q _ _ .non h2.reverse⟩
/-- a question to a list or a tuple: which of the two is told by the run -/
theorem se_ask {idL idT : String} {g : List PyData → PyData → Option PyData} (hK : X.K = G.K) (hm : mthM m = askM g) (hok : ∀ t, mthOk m t = true → t = .lst ∨ t = .tup) (hg : ∀ xs d r, g xs d = some r → dok (.list xs) = true ∧ dok d = true ∧ ∃ i, r = .int i)
    (slL : Slot "list" name idL) (tyL : typeOf (.builtin idL) = pure (.type "method_descriptor")) (slT : Slot "tuple" name idT) (tyT : typeOf (.builtin idT) = pure (.type "method_descriptor"))
    (mL : MtR X idL (rAsk (fun ys p H => SqL X.K H p ys) g X.K)) (mT : MtR X idT (rAsk (fun ys p H => SqT X.K H p ys) g X.K))
    (ho : SE X G W o (ev cf co)) (ha : SA X G W (e :: es) (evs cf ca)) (ok : MOk X o name apos cpos e es) : SE X G W (.Call (.Attribute o name apos) (e :: es) [] cpos) (ev cf (.mth m co ca)) := by
  have pL := pe_bm F.plainAttrs_list slL tyL mL ho ha ok.base ok.few ok.line ok.plain.1 ok.plain.2
  have pT := pe_bmT slT tyT mT ho ha ok
  refine ⟨fun pins s σ H Q J ⟨E, n, R, P⟩ => ?_⟩
  have listCase : (∀ x n1 d n2, ev cf co n = .ok x n1 → rd x n1 = .ok d n2 → mthOk m (tagOf d) = true → tagOf d = .lst) → tBM X.K "list" (rAsk (fun ys p H => SqL X.K H p ys) g X.K) (tE G W (ev cf co)) (tA G W (evs cf ca)) σ H Q := fun ht => by
    unfold tBM
    rw [hK]
    refine mth_run .lst (ty := tyV G.K "list") R P ht (fun _ _ _ _ => lst_ty) fun E1 n1 H1 n2 H2 x v os vs mb P => ?_
    rw [hm] at P
    obtain ⟨O, d, xs, y, e, i, h1, h2, rfl, h3, k1, k2, hi, q⟩ := mb_ask mb P hg
    cases d with
    | list ds =>
      cases h2
      obtain ⟨a, ys, rfl, h4, h5⟩ := h1.list
      exact ⟨a, y, ys, _, e, i, rfl, rfl, .inl (.inl h4), h5.dp (by simpa [PyData.plain] using dok_plain k1), h3.dp (dok_plain k2), k1, k2, hi, q⟩
    | _ => cases h2
  rcases mth_tag P with ⟨c, pl, n', e⟩ | ⟨x, n1, d, n2, e1, e2, h⟩
  · exact pL.run pins s σ H Q J (listCase fun x n1 d n2 e1 _ _ => by rw [e] at e1; cases e1)
  · have same : ∀ x' n1' d' n2', ev cf co n = .ok x' n1' → rd x' n1' = .ok d' n2' → d' = d := fun x' n1' d' n2' e3 e4 => by
      rw [e1] at e3
      cases e3
      rw [e2] at e4
      cases e4
      rfl
    rcases hok _ h with ht | ht
    · exact pL.run pins s σ H Q J (listCase fun x' n1' d' n2' e3 e4 _ => by rw [same x' n1' d' n2' e3 e4]; exact ht)
    · refine pT.run pins s σ H Q J ?_
      unfold tBMT
      rw [hK]
      refine mth_run .tup (ty := fun x H1 => ∃ p xs, x = .ref p ∧ TD G.K H1 p xs) R P (fun x' n1' d' n2' e3 e4 _ => by rw [same x' n1' d' n2' e3 e4]; exact ht) (fun H O v d hd et => ?_) fun E1 n1 H1 n2 H2 x v os vs mb P => ?_
      · obtain ⟨ds, rfl⟩ := tag_tup et
        obtain ⟨a, ys, rfl, h4, h5⟩ := hd.tup
        exact ⟨a, ys, rfl, h4⟩
      · rw [hm] at P
        obtain ⟨O, d, xs, y, e, i, h1, h2, rfl, h3, k1, k2, hi, q⟩ := mb_ask mb P hg
        cases d with
        | tuple ds =>
          cases h2
          obtain ⟨a, ys, rfl, h4, h5⟩ := h1.tup
          exact ⟨a, y, ys, _, e, i, rfl, rfl, h4.sqT, h5.dp (by simpa [PyData.plain] using dok_plain k1), h3.dp (dok_plain k2), k1, k2, hi, q⟩
        | _ => cases h2
theorem idxM_g (xs : List PyData) (d r : PyData) (h : idxM xs d = some r) : dok (.list xs) = true ∧ dok d = true ∧ ∃ i, r = .int i := by
  unfold idxM at h
  split at h
  · rename_i k
    obtain ⟨k1, k2⟩ := Bool.and_eq_true_iff.mp k
    cases e : SeqAt.dataPlace xs d with
    | none => rw [e] at h; cases h
    | some j => rw [e] at h; cases h; exact ⟨k1, k2, _, rfl⟩
  · cases h
theorem cntM_g (xs : List PyData) (d r : PyData) (h : cntM xs d = some r) : dok (.list xs) = true ∧ dok d = true ∧ ∃ i, r = .int i := by
  unfold cntM at h
  split at h
  · rename_i k
    obtain ⟨k1, k2⟩ := Bool.and_eq_true_iff.mp k
    cases h
    exact ⟨k1, k2, _, rfl⟩
  · cases h
theorem se_index (hK : X.K = G.K) (hu : X.A.units + 64 < cLine) (ho : SE X G W o (ev cf co)) (ha : SA X G W (e :: es) (evs cf ca)) (ok : MOk X o "index" apos cpos e es) : SE X G W (.Call (.Attribute o "index" apos) (e :: es) [] cpos) (ev cf (.mth .index co ca)) :=
  se_ask hK rfl (fun t h => by cases t <;> first | exact .inl rfl | exact .inr rfl | cases h) idxM_g F.slot_list_index F.type_list_index F.slot_tuple_index F.type_tuple_index (mt_idxL hu) (mt_idxT hu) ho ha ok
theorem se_count (hK : X.K = G.K) (hu : X.A.units + 64 < cLine) (ho : SE X G W o (ev cf co)) (ha : SA X G W (e :: es) (evs cf ca)) (ok : MOk X o "count" apos cpos e es) : SE X G W (.Call (.Attribute o "count" apos) (e :: es) [] cpos) (ev cf (.mth .count co ca)) :=
  se_ask hK rfl (fun t h => by cases t <;> first | exact .inl rfl | exact .inr rfl | cases h) cntM_g F.slot_list_count F.type_list_count F.slot_tuple_count F.type_tuple_count (mt_cntL hu) (mt_cntT hu) ho ha ok
end
end
end DM
set_option Elab.async false
set_option linter.all false
set_option maxRecDepth 100000
/-! DM10: lists that are walked; stores. -/
namespace DM
open PySem PySem.Spec PyProof.Rows L2

/-! ### lists locked and unlocked -/
theorem lock_get : ∀ {src : List Nat} {n n2 : En}, lock src n = some n2 → n2.length = n.length ∧ ∀ j : Nat, (j ∉ src → n2[j]? = n[j]?) ∧
    (j ∈ src → (∃ d, n[j]? = some (.val d) ∧ n2[j]? = some (.val d)) ∨ ∃ l p d, n[j]? = some (.own l p d) ∧ n2[j]? = some (.own true p d))
  | [], n, n2, h => by
    cases h
    exact ⟨rfl, fun j => ⟨fun _ => rfl, fun q => by cases q⟩⟩
  | i :: is, n, n2, h => by
    simp only [lock] at h
    split at h
    · rename_i l p d e
      have hi : i < n.length := (List.getElem?_eq_some_iff.mp e).1
      obtain ⟨h1, h2⟩ := lock_get h
      have get : ∀ j, (n.set i (.own true p d))[j]? = if i = j then some (.own true p d) else n[j]? := fun j => by
        rw [List.getElem?_set]
        split
        · rename_i q; subst q; first | rfl | rw [if_pos hi]
        · rfl
      refine ⟨by rw [h1, List.length_set], fun j => ⟨fun q => ?_, fun q => ?_⟩⟩
      · rw [(h2 j).1 fun z => q (List.mem_cons_of_mem _ z), get, if_neg fun z => q (by rw [z]; exact List.mem_cons_self)]
      · by_cases hij : i = j
        · subst hij
          by_cases hm : i ∈ is
          · rcases (h2 i).2 hm with ⟨d', q1, _⟩ | ⟨l', p', d', q1, q2⟩
            · rw [get, if_pos rfl] at q1; cases q1
            · rw [get, if_pos rfl] at q1
              cases q1
              exact .inr ⟨l, p, d, e, q2⟩
          · refine .inr ⟨l, p, d, e, ?_⟩
            rw [(h2 i).1 hm, get, if_pos rfl]
        · have hm : j ∈ is := (List.mem_cons.mp q).resolve_left fun z => hij z.symm
          rcases (h2 j).2 hm with ⟨d', q1, q2⟩ | ⟨l', p', d', q1, q2⟩
          · rw [get, if_neg hij] at q1
            exact .inl ⟨d', q1, q2⟩
          · rw [get, if_neg hij] at q1
            exact .inr ⟨l', p', d', q1, q2⟩
    · rename_i d e
      obtain ⟨h1, h2⟩ := lock_get h
      refine ⟨h1, fun j => ⟨fun q => (h2 j).1 fun z => q (List.mem_cons_of_mem _ z), fun q => ?_⟩⟩
      by_cases hm : j ∈ is
      · exact (h2 j).2 hm
      · have hij : j = i := (List.mem_cons.mp q).resolve_right hm
        subst hij
        exact .inl ⟨d, e, by rw [(h2 j).1 hm]; exact e⟩
    · cases h
theorem unlock_get {n0 : En} : ∀ {src : List Nat} {n : En}, (unlock n0 src n).length = n.length ∧ ∀ j : Nat, (unlock n0 src n)[j]? = n[j]? ∧ ¬ (j ∈ src ∧ wasFree n0 j = true ∧ ∃ p d, n[j]? = some (.own true p d)) ∨
    ∃ p d, j ∈ src ∧ wasFree n0 j = true ∧ n[j]? = some (.own true p d) ∧ (unlock n0 src n)[j]? = some (.own false p d)
  | [], n => ⟨rfl, fun j => .inl ⟨rfl, fun q => by cases q.1⟩⟩
  | i :: is, n => by
    obtain ⟨h1, h2⟩ := unlock_get (n0 := n0) (src := is) (n := n)
    rw [show unlock n0 (i :: is) n = unlock1 (wasFree n0 i) i (unlock n0 is n) from rfl]
    have nop : unlock1 (wasFree n0 i) i (unlock n0 is n) = unlock n0 is n → ¬ (wasFree n0 i = true ∧ ∃ p d, (unlock n0 is n)[i]? = some (.own true p d)) → (unlock1 (wasFree n0 i) i (unlock n0 is n)).length = n.length ∧ ∀ j : Nat, (unlock1 (wasFree n0 i) i (unlock n0 is n))[j]? = n[j]? ∧ ¬ (j ∈ i :: is ∧ wasFree n0 j = true ∧ ∃ p d, n[j]? = some (.own true p d)) ∨
        ∃ p d, j ∈ i :: is ∧ wasFree n0 j = true ∧ n[j]? = some (.own true p d) ∧ (unlock1 (wasFree n0 i) i (unlock n0 is n))[j]? = some (.own false p d) := fun e ne => by
      rw [e]
      refine ⟨h1, fun j => ?_⟩
      rcases h2 j with ⟨q1, q2⟩ | ⟨p, d, q1, q2, q3, q4⟩
      · refine .inl ⟨q1, fun ⟨m, f, p, d, g⟩ => ?_⟩
        rcases List.mem_cons.mp m with m | m
        · subst m
          exact ne ⟨f, p, d, by rw [q1]; exact g⟩
        · exact q2 ⟨m, f, p, d, g⟩
      · exact .inr ⟨p, d, List.mem_cons_of_mem _ q1, q2, q3, q4⟩
    by_cases hw : wasFree n0 i = true
    · cases hs : (unlock n0 is n)[i]? with
      | none => exact nop (by unfold unlock1; rw [hw, hs]; rfl) fun ⟨_, p, d, g⟩ => by rw [hs] at g; cases g
      | some s =>
        cases s with
        | own l p d =>
          cases l with
          | false => exact nop (by unfold unlock1; rw [hw, hs]; rfl) fun ⟨_, p, d, g⟩ => by rw [hs] at g; cases g
          | true =>
            have eu : unlock1 (wasFree n0 i) i (unlock n0 is n) = (unlock n0 is n).set i (.own false p d) := by unfold unlock1; rw [hw, hs]; rfl
            have hi : i < (unlock n0 is n).length := (List.getElem?_eq_some_iff.mp hs).1
            have get : ∀ j, ((unlock n0 is n).set i (.own false p d))[j]? = if i = j then some (.own false p d) else (unlock n0 is n)[j]? := fun j => by
              rw [List.getElem?_set]
              split
              · rename_i q; subst q; first | rfl | rw [if_pos hi]
              · rfl
            rw [eu]
            refine ⟨by rw [List.length_set]; exact h1, fun j => ?_⟩
            rw [get]
            by_cases hij : i = j
            · subst hij
              rw [if_pos rfl]
              rcases h2 i with ⟨q1, q2⟩ | ⟨p', d', q1, q2, q3, q4⟩
              · exact .inr ⟨p, d, List.mem_cons_self, hw, by rw [← q1]; exact hs, rfl⟩
              · rw [hs] at q4; cases q4
            · rw [if_neg hij]
              rcases h2 j with ⟨q1, q2⟩ | ⟨p', d', q1, q2, q3, q4⟩
              · refine .inl ⟨q1, fun ⟨m, f, p, d, g⟩ => ?_⟩
                rcases List.mem_cons.mp m with m | m
                · exact hij m.symm
                · exact q2 ⟨m, f, p, d, g⟩
              · exact .inr ⟨p', d', List.mem_cons_of_mem _ q1, q2, q3, q4⟩
        | emp => exact nop (by unfold unlock1; rw [hw, hs]; rfl) fun ⟨_, p, d, g⟩ => by rw [hs] at g; cases g
        | val d => exact nop (by unfold unlock1; rw [hw, hs]; rfl) fun ⟨_, p, d, g⟩ => by rw [hs] at g; cases g
        | exc c d => exact nop (by unfold unlock1; rw [hw, hs]; rfl) fun ⟨_, p, d, g⟩ => by rw [hs] at g; cases g
    · exact nop (by unfold unlock1; rw [if_neg hw]) fun ⟨f, _⟩ => hw f
/-- the same names, but for locks -/
structure Fl (n n' : En) : Prop where
  len : n'.length = n.length
  at_ : ∀ j : Nat, n'[j]? = n[j]? ∨ ∃ l l' p d, n[j]? = some (.own l p d) ∧ n'[j]? = some (.own l' p d)
section
variable {K : PySem.W.Frag} {E E' : Addr → Prop} {n n' n2 : En} {σ σ' : L2.St} {H H' : Hp} {src : List Nat}
theorem Fl.back (f : Fl n n') {j : Nat} {l p : Bool} {d : PyData} (h : n'[j]? = some (.own l p d)) : ∃ l0, n[j]? = some (.own l0 p d) := by
  rcases f.at_ j with e | ⟨l1, l2, p', d', h1, h2⟩
  · exact ⟨l, by rw [← e]; exact h⟩
  · rw [h] at h2
    cases h2
    exact ⟨l1, h1⟩
theorem Fl.exc (f : Fl n n') : ∀ a, Exc n' σ a → Exc n σ a := fun a ⟨j, l, p, d, h1, h2⟩ => by
  obtain ⟨l0, h0⟩ := f.back h1
  exact ⟨j, l0, p, d, h0, h2⟩
theorem Fl.rel (f : Fl n n') (R : Rel K E n σ H) : Rel K E n' σ H := by
  have an : ∀ a, OE E n' σ a → OE E n σ a := fun a z => z.imp id (f.exc a)
  refine ⟨f.len.trans R.len, fun i d h => ?_, fun i l p d h => ?_, fun i j a l p d l' p' d' h1 h2 => ?_, fun i c pl h => ?_, R.ext⟩
  · rcases f.at_ i with e | ⟨l1, l2, p', d', h1, h2⟩
    · obtain ⟨v, q1, q2⟩ := R.val i d (by rw [← e]; exact h)
      exact ⟨v, q1, q2.anti an⟩
    · rw [h] at h2; cases h2
  · obtain ⟨l0, h0⟩ := f.back h
    obtain ⟨a, q1, q2, q3⟩ := R.own i l0 p d h0
    exact ⟨a, q1, q2.anti an, q3⟩
  · obtain ⟨l0, h0⟩ := f.back h1
    obtain ⟨l0', h0'⟩ := f.back h2
    exact R.apart i j a _ _ _ _ _ _ h0 h0'
  · rcases f.at_ i with e | ⟨l1, l2, p', d', h1, h2⟩
    · exact R.noexc i c pl (by rw [← e]; exact h)
    · rw [h] at h2; cases h2
theorem lock_fl (h : lock src n = some n2) : Fl n n2 := by
  obtain ⟨h1, h2⟩ := lock_get h
  refine ⟨h1, fun j => ?_⟩
  by_cases hj : j ∈ src
  · rcases (h2 j).2 hj with ⟨d, q1, q2⟩ | ⟨l, p, d, q1, q2⟩
    · exact .inl (by rw [q1, q2])
    · exact .inr ⟨l, true, p, d, q1, q2⟩
  · exact .inl ((h2 j).1 hj)
theorem unlock_fl : Fl n' (unlock n src n') := by
  obtain ⟨h1, h2⟩ := unlock_get (n0 := n) (src := src) (n := n')
  refine ⟨h1, fun j => ?_⟩
  rcases h2 j with ⟨e, _⟩ | ⟨p, d, _, _, q3, q4⟩
  · exact .inl e
  · exact .inr ⟨true, false, p, d, q3, q4⟩
/-- nothing locked can be changed -/
theorem lock_mu (h : lock src n = some n2) : ∀ a, Mu n2 σ a → Mu n σ a := fun a ⟨j, p, d, h1, h2⟩ => by
  obtain ⟨_, g⟩ := lock_get h
  by_cases hj : j ∈ src
  · rcases (g j).2 hj with ⟨d', _, q2⟩ | ⟨l, p', d', _, q2⟩ <;> (rw [h1] at q2; cases q2)
  · exact ⟨j, p, d, by rw [← (g j).1 hj]; exact h1, h2⟩
/-- the bracket -/
theorem lock_step (h : lock src n = some n2) (s : Step n2 σ H n' σ' H') : Step n σ H (unlock n src n') σ' H' := by
  obtain ⟨_, g⟩ := lock_get h
  obtain ⟨_, u⟩ := unlock_get (n0 := n) (src := src) (n := n')
  refine ⟨fun a o e m => s.fr a o e fun z => m (lock_mu h a z), s.tr, fun a ⟨j, p, d, h1, h2⟩ => ?_, fun a z => ?_, fun i l d e => ?_, fun i p d e => ?_⟩
  · rcases u j with ⟨e, _⟩ | ⟨p', d', q1, q2, q3, q4⟩
    · exact (s.mu a ⟨j, p, d, by rw [← e]; exact h1, h2⟩).imp (lock_mu h a) id
    · obtain ⟨d0, k1, k2⟩ := s.lk j p' d' q3
      unfold wasFree at q2
      split at q2
      · rename_i p1 d1 hf
        exact .inl ⟨j, p1, d1, hf, by rw [← k2]; exact h2⟩
      · cases q2
  · rcases s.ex a (unlock_fl.exc a z) with z | z
    · exact .inl ((lock_fl h).exc a z)
    · exact .inr z
  · have e2 : ∃ l2 d2, n2[i]? = some (.own l2 true d2) := by
      rcases (lock_fl h).at_ i with q | ⟨l1, l2, p, d', q1, q2⟩
      · exact ⟨l, d, by rw [q]; exact e⟩
      · rw [e] at q1; cases q1; exact ⟨l2, d, q2⟩
    obtain ⟨l2, d2, e2⟩ := e2
    obtain ⟨l3, d3, e3, e4⟩ := s.pr i l2 d2 e2
    rcases (unlock_fl (n := n) (src := src) (n' := n')).at_ i with q | ⟨l1, l4, p, d', q1, q2⟩
    · exact ⟨l3, d3, by rw [q]; exact e3, e4⟩
    · rw [e3] at q1; cases q1; exact ⟨l4, d3, q2, e4⟩
  · rcases u i with ⟨q, nq⟩ | ⟨p', d', q1, q2, q3, q4⟩
    · have e' : n'[i]? = some (.own true p d) := by rw [← q]; exact e
      obtain ⟨d0, k1, k2⟩ := s.lk i p d e'
      refine ⟨d0, ?_, k2⟩
      by_cases hi : i ∈ src
      · rcases (g i).2 hi with ⟨d1, _, q2⟩ | ⟨l, p1, d1, q1, q2⟩
        · rw [k1] at q2; cases q2
        · rw [k1] at q2
          cases q2
          cases l with
          | true => exact q1
          | false =>
            refine absurd ⟨hi, ?_, p, d, e'⟩ nq
            unfold wasFree
            rw [q1]
      · rw [← (g i).1 hi]; exact k1
    · rw [e] at q4; cases q4
theorem unlock_rel (R : Rel K E n' σ' H') : Rel K E (unlock n src n') σ' H' := unlock_fl.rel R
end

/-! ### the heap without one list -/
def dropA (H : Hp) (D : Addr) : Hp := fun a => if a = D then none else H a
theorem dropA_self {H : Hp} {D : Addr} : dropA H D D = none := by unfold dropA; rw [if_pos rfl]
theorem dropA_ne {H : Hp} {D a : Addr} (h : a ≠ D) : dropA H D a = H a := by unfold dropA; rw [if_neg h]
theorem dropA_some {H : Hp} {D a : Addr} {o : HO} (h : dropA H D a = some o) : a ≠ D ∧ H a = some o := by
  unfold dropA at h
  split at h
  · cases h
  · exact ⟨‹_›, h⟩
abbrev less (E : Addr → Prop) (D : Addr) : Addr → Prop := fun a => E a ∧ a ≠ D
section
variable {K : PySem.W.Frag} {E E' : Addr → Prop} {n n' n2 : En} {σ σ' σ2 : L2.St} {H H' H2 : Hp} {D : Addr}
theorem dropA_pres (h : E D) : Pres H (OE E n σ) (dropA H D) (OE (less E D) n σ) := ⟨fun a o e q => by
  rw [dropA_ne fun z => q (by rw [z]; exact .inl h)]
  exact e, fun a q => q.elim (fun z => .inl (.inl z.1)) fun z => .inl (.inr z)⟩
theorem Rel.drop (R : Rel K E n σ H) (h : E D) : Rel K (less E D) n σ (dropA H D) := by
  have p : Pres H (OE E n σ) (dropA H D) (OE (less E D) n σ) := dropA_pres h
  refine ⟨R.len, fun i d e => ?_, fun i l q d e => ?_, R.apart, R.noexc, fun a z => ?_⟩
  · obtain ⟨v, h1, h2⟩ := R.val i d e
    exact ⟨v, h1, h2.pres R.lo p⟩
  · obtain ⟨a, h1, ⟨u0, xs, ds, h4, h5, h6⟩, h3⟩ := R.own i l q d e
    exact ⟨a, h1, ⟨u0, xs, ds, h4, by rw [dropA_ne fun z => h3 (by rw [z]; exact h)]; exact h5, h6.pres R.lo p⟩, fun z => h3 z.1⟩
  · obtain ⟨xs, e, mut0⟩ := R.ext a z.1
    exact ⟨xs, by rw [dropA_ne z.2]; exact e, mut0⟩
theorem Step.drop (s : Step n σ H n' σ' H') : Step n σ (dropA H D) n' σ' H' where
  fr := fun a o e m => s.fr a o (dropA_some e).2 m
  tr := fun a e => s.tr a fun z => e (by unfold dropA; split <;> first | rfl | exact z)
  mu := fun a z => (s.mu a z).imp id fun z => by unfold dropA; split <;> first | rfl | exact z
  ex := fun a z => (s.ex a z).imp id fun z => by unfold dropA; split <;> first | rfl | exact z
  pr := s.pr
  lk := s.lk
theorem Step.trans_drop (a : Step n σ H n' σ' H') (b : Step n' σ' (dropA H' D) n2 σ2 H2) (hD : H D = none) (h2 : H2 D ≠ none) : Step n σ H n2 σ2 H2 := by
  have back : ∀ x, dropA H' D x = none → H x = none := fun x q => by
    by_cases hx : x = D
    · rw [hx]; exact hD
    · rw [dropA_ne hx] at q
      cases e : H x with
      | none => rfl
      | some o => exact absurd q (a.tr x (by rw [e]; exact fun z => by cases z))
  refine ⟨fun x o e m => ?_, fun x e => ?_, fun x z => ?_, fun x z => ?_, fun i l d e => ?_, fun i p d e => ?_⟩
  · have hx : x ≠ D := fun z => by rw [z, hD] at e; cases e
    exact b.fr x o (by rw [dropA_ne hx]; exact a.fr x o e m) fun z => (a.mu x z).elim m fun q => by rw [e] at q; cases q
  · by_cases hx : x = D
    · rw [hx]; exact h2
    · exact b.tr x (by rw [dropA_ne hx]; exact a.tr x e)
  · rcases b.mu x z with z | z
    · exact a.mu x z
    · exact .inr (back x z)
  · rcases b.ex x z with z | z
    · exact a.ex x z
    · exact .inr (back x z)
  · obtain ⟨l1, d1, e1, s1⟩ := a.pr i l d e
    obtain ⟨l2, d2, e2, s2⟩ := b.pr i l1 d1 e1
    exact ⟨l2, d2, e2, s2.trans s1⟩
  · obtain ⟨d1, e1, s1⟩ := b.lk i p d e
    obtain ⟨d2, e2, s2⟩ := a.lk i p d1 e1
    exact ⟨d2, e2, s1.trans s2⟩
end

/-! ### stores -/
/-- what a target gets: a value, or a tuple just made -/
def IV (K : PySem.W.Frag) (H : Hp) (O : Addr → Prop) (v : V) (d : PyData) : Prop := RV K H O v d ∨ ∃ p xs ds, v = .ref p ∧ SqT K H p xs ∧ d = .tuple ds ∧ RVs K H O xs ds
/-- nothing but the names of is may differ -/
def Chg (is : List Nat) (σ σ' : L2.St) : Prop := σ'.length = σ.length ∧ ∀ j : Nat, j ∉ is → σ'[j]? = σ[j]?
theorem Chg.refl {is : List Nat} {σ : L2.St} : Chg is σ σ := ⟨rfl, fun _ _ => rfl⟩
theorem Chg.trans {is js : List Nat} {σ σ1 σ2 : L2.St} (a : Chg is σ σ1) (b : Chg js σ1 σ2) : Chg (is ++ js) σ σ2 :=
  ⟨b.1.trans a.1, fun j h => (b.2 j fun z => h (List.mem_append_right _ z)).trans (a.2 j fun z => h (List.mem_append_left _ z))⟩
mutual
def tgN : Tg → List Nat
  | .nm i => [i]
  | .tu ts => tgsN ts
  | .nil => []
  | .cons _ _ => []
def tgsN : Tg → List Nat
  | .cons t ts => tgN t ++ tgsN ts
  | .nil => []
  | .nm _ => []
  | .tu _ => []
end
section
variable {K : PySem.W.Frag} {E E' : Addr → Prop} {n n' n1 n2 : En} {σ σ' : L2.St} {H H' H0 H1 : Hp} {i : Nat} {v : V} {d : PyData} {o : Opd}
theorem putSl_ok {s : Sl} (e : putSl i s n = .ok () n') : n' = n.set i s ∧ i < n.length ∧ ∀ l d, n[i]? ≠ some (.own l true d) := by
  simp only [putSl] at e
  split at e
  · cases e
  · rename_i x hx hn
    cases e
    refine ⟨rfl, (List.getElem?_eq_some_iff.mp hn).1, fun l d q => ?_⟩
    rw [hn] at q
    exact hx l d (Option.some.inj q)
  · cases e
theorem putSl_noerr {s : Sl} {c : Nat} {pl : PyData} : putSl i s n ≠ .err c pl n' := by
  simp only [putSl]
  split <;> exact fun e => by cases e
theorem set_get {α : Type} {n : List α} {i : Nat} {s : α} (hi : i < n.length) (j : Nat) : (n.set i s)[j]? = if i = j then some s else n[j]? := by
  rw [List.getElem?_set]
  split
  · rename_i q; subst q; first | rfl | rw [if_pos hi]
  · rfl
/-- a value stored -/
theorem Rel.putV (R : Rel K E n σ H) (h : RV K H (OE E n σ) v d) (hi : i < n.length) (hp : ∀ l d, n[i]? ≠ some (.own l true d)) :
    Rel K E (n.set i (.val d)) (σ.set i (some v)) H ∧ Step n σ H (n.set i (.val d)) (σ.set i (some v)) H ∧ ∀ a, OE E (n.set i (.val d)) (σ.set i (some v)) a → OE E n σ a := by
  have hs : i < σ.length := by rw [← R.len]; exact hi
  have ow : ∀ (j : Nat) l p d', (n.set i (.val d))[j]? = some (.own l p d') → i ≠ j ∧ n[j]? = some (.own l p d') := fun j l p d' q => by
    rw [set_get hi] at q
    split at q
    · cases q
    · exact ⟨‹_›, q⟩
  have sg : ∀ (j : Nat), i ≠ j → (σ.set i (some v))[j]? = σ[j]? := fun j q => by rw [set_get hs, if_neg q]
  have ex : ∀ a, Exc (n.set i (.val d)) (σ.set i (some v)) a → Exc n σ a := fun a ⟨j, l, p, d', q1, q2⟩ => by
    obtain ⟨hij, q3⟩ := ow j l p d' q1
    rw [sg j hij] at q2
    exact ⟨j, l, p, d', q3, q2⟩
  have mu : ∀ a, Mu (n.set i (.val d)) (σ.set i (some v)) a → Mu n σ a := fun a ⟨j, p, d', q1, q2⟩ => by
    obtain ⟨hij, q3⟩ := ow j false p d' q1
    rw [sg j hij] at q2
    exact ⟨j, p, d', q3, q2⟩
  have an : ∀ a, OE E (n.set i (.val d)) (σ.set i (some v)) a → OE E n σ a := fun a z => z.imp id (ex a)
  refine ⟨⟨by rw [List.length_set, List.length_set]; exact R.len, fun j d' q => ?_, fun j l p d' q => ?_, fun j k a _ _ _ _ _ _ q1 q2 s1 s2 => ?_, fun j c pl q => ?_, R.ext⟩, ⟨fun _ _ e _ => e, fun _ e => e, fun a z => .inl (mu a z), fun a z => .inl (ex a z), fun j l d' q => ?_, fun j p d' q => ?_⟩, an⟩
  · rw [set_get hi] at q
    split at q
    · rename_i hij
      cases q
      subst hij
      exact ⟨v, by rw [set_get hs, if_pos rfl], h.anti an⟩
    · rename_i hij
      obtain ⟨w, q1, q2⟩ := R.val j d' q
      exact ⟨w, by rw [sg j hij]; exact q1, q2.anti an⟩
  · obtain ⟨hij, q3⟩ := ow j l p d' q
    obtain ⟨a, q4, q5, q6⟩ := R.own j l p d' q3
    exact ⟨a, by rw [sg j hij]; exact q4, q5.anti an, q6⟩
  · obtain ⟨hij, q3⟩ := ow j _ _ _ q1
    obtain ⟨hik, q4⟩ := ow k _ _ _ q2
    rw [sg j hij] at s1
    rw [sg k hik] at s2
    exact R.apart j k a _ _ _ _ _ _ q3 q4 s1 s2
  · rw [set_get hi] at q
    split at q
    · cases q
    · exact R.noexc j c pl q
  · have hij : i ≠ j := fun z => by subst z; exact hp l d' q
    exact ⟨l, d', by rw [set_get hi, if_neg hij]; exact q, sg j hij⟩
  · obtain ⟨hij, q3⟩ := ow j true p d' q
    exact ⟨d', q3, sg j hij⟩
/-- a fresh list stored: the name's own from now on -/
theorem Rel.putO {a : Addr} {σ0 : L2.St} (R : Rel K (orP E fun b => v = .ref b) n1 σ H1) (hv : v = .ref a) (h : OV K H1 (OE (orP E fun b => v = .ref b) n1 σ) a d) (hE : ¬ E a) (st : Step n σ0 H n1 σ H1) (nw : H a = none) (hi : i < n1.length) (hp : ∀ l d, n1[i]? ≠ some (.own l true d)) :
    Rel K E (n1.set i (.own false false d)) (σ.set i (some v)) H1 ∧ Step n σ0 H (n1.set i (.own false false d)) (σ.set i (some v)) H1 := by
  subst hv
  have hs : i < σ.length := by rw [← R.len]; exact hi
  have sg : ∀ (j : Nat), i ≠ j → (σ.set i (some (.ref a)))[j]? = σ[j]? := fun j q => by rw [set_get hs, if_neg q]
  have si : (σ.set i (some (V.ref a)))[i]? = some (some (.ref a)) := by rw [set_get hs, if_pos rfl]
  have ow : ∀ (j : Nat) l p d', (n1.set i (.own false false d))[j]? = some (.own l p d') → (i = j ∧ l = false ∧ p = false ∧ d' = d) ∨ (i ≠ j ∧ n1[j]? = some (.own l p d')) := fun j l p d' q => by
    rw [set_get hi] at q
    split at q
    · cases q
      exact .inl ⟨‹_›, rfl, rfl, rfl⟩
    · exact .inr ⟨‹_›, q⟩
  have exs : ∀ b, Exc (n1.set i (.own false false d)) (σ.set i (some (.ref a))) b → b = a ∨ Exc n1 σ b := fun b ⟨j, l, p, d', q1, q2⟩ => by
    rcases ow j l p d' q1 with ⟨hij, _⟩ | ⟨hij, q3⟩
    · subst hij
      rw [si] at q2
      cases q2
      exact .inl rfl
    · rw [sg j hij] at q2
      exact .inr ⟨j, l, p, d', q3, q2⟩
  have an : ∀ b, OE E (n1.set i (.own false false d)) (σ.set i (some (.ref a))) b → OE (orP E fun b => V.ref a = .ref b) n1 σ b := fun b z => by
    rcases z with z | z
    · exact .inl (.inl z)
    · rcases exs b z with z | z
      · rw [z]; exact .inl (.inr rfl)
      · exact .inr z
  refine ⟨⟨by rw [List.length_set, List.length_set]; exact R.len, fun j d' q => ?_, fun j l p d' q => ?_, fun j k b l p e l' p' e' q1 q2 s1 s2 => ?_, fun j c pl q => ?_, fun b q => R.ext b (.inl q)⟩, ⟨st.fr, st.tr, fun b ⟨j, p, d', q1, q2⟩ => ?_, fun b z => ?_, fun j l d' q => ?_, fun j p d' q => ?_⟩⟩
  · rw [set_get hi] at q
    split at q
    · cases q
    · rename_i hij
      obtain ⟨w, q1, q2⟩ := R.val j d' q
      exact ⟨w, by rw [sg j hij]; exact q1, q2.anti an⟩
  · rcases ow j l p d' q with ⟨hij, _, _, hd⟩ | ⟨hij, q3⟩
    · subst hij
      rw [hd]
      exact ⟨a, si, h.anti an, hE⟩
    · obtain ⟨b, q4, q5, q6⟩ := R.own j l p d' q3
      exact ⟨b, by rw [sg j hij]; exact q4, q5.anti an, fun z => q6 (.inl z)⟩
  · rcases ow j _ _ _ q1 with ⟨hij, _⟩ | ⟨hij, q3⟩ <;> rcases ow k _ _ _ q2 with ⟨hik, _⟩ | ⟨hik, q4⟩
    · exact hij.symm.trans hik
    · subst hij
      rw [si] at s1
      cases s1
      rw [sg k hik] at s2
      obtain ⟨b, y1, _, y3⟩ := R.own k _ _ _ q4
      rw [s2] at y1
      cases y1
      exact absurd (.inr rfl) y3
    · subst hik
      rw [si] at s2
      cases s2
      rw [sg j hij] at s1
      obtain ⟨b, y1, _, y3⟩ := R.own j _ _ _ q3
      rw [s1] at y1
      cases y1
      exact absurd (.inr rfl) y3
    · rw [sg j hij] at s1
      rw [sg k hik] at s2
      exact R.apart j k b _ _ _ _ _ _ q3 q4 s1 s2
  · rw [set_get hi] at q
    split at q
    · cases q
    · exact R.noexc j c pl q
  · rcases ow j false p d' q1 with ⟨hij, _⟩ | ⟨hij, q3⟩
    · subst hij
      rw [si] at q2
      cases q2
      exact .inr nw
    · rw [sg j hij] at q2
      exact st.mu b ⟨j, p, d', q3, q2⟩
  · rcases exs b z with z | z
    · rw [z]; exact .inr nw
    · exact st.ex b z
  · obtain ⟨l1, d1, e1, e2⟩ := st.pr j l d' q
    have hij : i ≠ j := fun z => by subst z; exact hp l1 d1 e1
    exact ⟨l1, d1, by rw [set_get hi, if_neg hij]; exact e1, (sg j hij).trans e2⟩
  · rcases ow j true p d' q with ⟨_, z, _⟩ | ⟨hij, q3⟩
    · cases z
    · obtain ⟨d1, e1, e2⟩ := st.lk j p d' q3
      exact ⟨d1, e1, (sg j hij).trans e2⟩
/-- an operand stored -/
theorem put_ok (er : ER K E n σ H o n1 v H1) (hE : ∀ a, tmp o v a → ¬ E a) (e : put i o n1 = .ok () n') :
    Rel K E n' (σ.set i (some v)) H1 ∧ Step n σ H n' (σ.set i (some v)) H1 := by
  cases o with
  | v d =>
    obtain ⟨rfl, hi, hp⟩ := putSl_ok e
    obtain ⟨r, s, _⟩ := (er.rel.weak er.up).putV (RV.anti (fun a z => z.imp .inl id) er.op) hi hp
    exact ⟨r, er.step.trans s⟩
  | f d =>
    obtain ⟨rfl, hi, hp⟩ := putSl_ok e
    obtain ⟨a, ev, h⟩ := er.op
    exact er.rel.putO ev h (hE a ev) er.step (er.new a ev) hi hp
  | s j =>
    obtain ⟨d, n2, e1, e2⟩ := bnd_ok (show bnd (keep (.s j)) (fun d => putSl i (.val d)) n1 = _ from e)
    obtain ⟨r, h, s, _⟩ := keep_ok er.rel er.op hE e1
    obtain ⟨rfl, hi, hp⟩ := putSl_ok e2
    obtain ⟨r2, s2, _⟩ := r.putV h hi hp
    exact ⟨r2, (er.step.trans s).trans s2⟩
theorem put_noerr {c : Nat} {pl : PyData} : put i o n ≠ .err c pl n' := by
  cases o with
  | v d => exact putSl_noerr
  | f d => exact putSl_noerr
  | s j => exact fun e => (bnd_err (show bnd (keep (.s j)) (fun d => putSl i (.val d)) n = _ from e)).elim keep_noerr fun ⟨d, n1, _, e⟩ => putSl_noerr e
mutual
theorem setT_noerr {c : Nat} {pl : PyData} : ∀ (t : Tg) (d : PyData) (n : En), setT t d n ≠ .err c pl n'
  | .nm i, d, n => putSl_noerr
  | .nil, _, _ => fun e => by cases e
  | .cons _ _, _, _ => fun e => by cases e
  | .tu ts, d, n => fun e => by
    simp only [setT] at e
    split at e
    · exact setTs_noerr ts _ n e
    · cases e
theorem setTs_noerr {c : Nat} {pl : PyData} : ∀ (t : Tg) (xs : List PyData) (n : En), setTs t xs n ≠ .err c pl n'
  | .nil, [], n => fun e => by cases e
  | .nil, _ :: _, n => fun e => by cases e
  | .cons t ts, [], n => fun e => by cases e
  | .cons t ts, x :: r, n => fun e => by
    have e' : bnd (setT t x) (fun _ => setTs ts r) n = .err c pl n' := e
    rcases bnd_err e' with e | ⟨_, n1, _, e⟩
    · exact setT_noerr t x n e
    · exact setTs_noerr ts r n1 e
  | .nm i, [], n => fun e => by cases e
  | .nm i, _ :: _, n => fun e => by cases e
  | .tu t, [], n => fun e => by cases e
  | .tu t, _ :: _, n => fun e => by cases e
end
end
end DM
set_option Elab.async false
set_option linter.all false
set_option maxRecDepth 100000
/-! DM11: targets, what is walked. -/
namespace DM
open PySem PySem.Spec PyProof.Rows L2

/-! ### targets -/
def isTu : Tg → Bool
  | .tu _ => true
  | _ => false
/-- v may be stored as d: a tuple just made is taken apart alone -/
def TV (t : Tg) (K : PySem.W.Frag) (H : Hp) (O : Addr → Prop) (v : V) (d : PyData) : Prop := RV K H O v d ∨ (isTu t = true ∧ IV K H O v d)
def tG (K : PySem.W.Frag) (t : Tg) : TG := fun v σ H Q => ∃ E n d n', Rel K E n σ H ∧ TV t K H (OE E n σ) v d ∧ setT t d n = .ok () n' ∧ ∀ σ', Rel K E n' σ' H → Step n σ H n' σ' H → Chg (tgN t) σ σ' → Q σ' H
def tGs (K : PySem.W.Frag) (t : Tg) : TGs := fun vs σ H Q => ∃ E n ds n', Rel K E n σ H ∧ RVs K H (OE E n σ) vs ds ∧ setTs t ds n = .ok () n' ∧ ∀ σ', Rel K E n' σ' H → Step n σ H n' σ' H → Chg (tgsN t) σ σ' → Q σ' H
theorem _root_.L2.PG.le {X : Cx} {e : Expr} {t t' : TG} (h : PG X e t) (q : ∀ v σ H Q, t' v σ H Q → t v σ H Q) : PG X e t' := ⟨fun pins s σ H v u Q I r w => h.run pins s σ H v u Q I r (q v σ H Q w)⟩
theorem _root_.L2.PGs.le {X : Cx} {e : List Expr} {t t' : TGs} (h : PGs X e t) (q : ∀ v σ H Q, t' v σ H Q → t v σ H Q) : PGs X e t' := ⟨fun pins s σ H v u Q I r w => h.run pins s σ H v u Q I r (q v σ H Q w)⟩
def tgLen : Tg → Nat
  | .cons _ ts => tgLen ts + 1
  | _ => 0
theorem setTs_len : ∀ {t : Tg} {ds : List PyData} {n n' : En}, setTs t ds n = .ok () n' → ds.length = tgLen t
  | .nil, [], _, _, _ => rfl
  | .nil, _ :: _, _, _, e => by cases e
  | .cons t ts, [], _, _, e => by cases e
  | .cons t ts, x :: r, n, n', e => by
    obtain ⟨_, n1, _, e2⟩ := bnd_ok (show bnd (setT t x) (fun _ => setTs ts r) n = .ok () n' from e)
    rw [List.length_cons, setTs_len e2]
    rfl
  | .nm i, [], _, _, e => by cases e
  | .nm i, _ :: _, _, _, e => by cases e
  | .tu t, [], _, _, e => by cases e
  | .tu t, _ :: _, _, _, e => by cases e
section
variable {X : Cx} {i : Nat} {x : Str} {pos : Pos} {t ts : Tg} {e : Expr} {es : List Expr}
theorem sg_name (hN : X.N.Nodup) (hi : X.N[i]? = some x) (hx : Loc X.env.scope x) (hf : X.fn x = true ∨ X.env.scope.names.lookup x = some .local) : PG X (.Name x pos) (tG X.K (.nm i)) := by
  refine (pg_name hN hi hx hf).le fun v σ H Q ⟨E, n, d, n', R, tv, e, k⟩ => ?_
  obtain ⟨rfl, hl, hp⟩ := putSl_ok e
  have rv : RV X.K H (OE E n σ) v d := by
    rcases tv with tv | ⟨z, _⟩
    · exact tv
    · cases z
  obtain ⟨r, s, _⟩ := R.putV rv hl hp
  have hs : i < σ.length := by rw [← R.len]; exact hl
  exact k _ r s ⟨List.length_set, fun j hj => by rw [set_get hs, if_neg fun z => hj (by rw [z]; exact List.mem_singleton.mpr rfl)]⟩
theorem sgs_nil : PGs X [] (tGs X.K .nil) := by
  refine pgs_nil.le fun vs σ H Q ⟨E, n, ds, n', R, rv, e, k⟩ => ?_
  cases ds with
  | nil =>
    cases rv
    cases e
    exact ⟨rfl, k σ R .refl .refl⟩
  | cons _ _ => cases e
theorem sgs_cons (h1 : PG X e (tG X.K t)) (h2 : PGs X es (tGs X.K ts)) (hs : (assignEach (e :: es) X.env).map (·.2) = assign e X.env :: (assignEach es X.env).map (·.2)) : PGs X (e :: es) (tGs X.K (.cons t ts)) := by
  refine (pgs_cons h1 h2 hs).le fun vs σ H Q ⟨E, n, ds, n', R, rv, e, k⟩ => ?_
  cases ds with
  | nil => cases e
  | cons d r =>
    match vs, rv with
    | v :: ws, .cons h q =>
      obtain ⟨_, n1, e1, e2⟩ := bnd_ok (show bnd (setT t d) (fun _ => setTs ts r) n = .ok () n' from e)
      refine ⟨v, ws, rfl, E, n, d, n1, R, .inl h, e1, fun σ1 R1 s1 c1 => ?_⟩
      exact ⟨E, n1, r, n', R1, q.pres R.lo (R.pres s1 fun a z => .inl z), e2, fun σ2 R2 s2 c2 => k σ2 R2 (s1.trans s2) (c1.trans c2)⟩
theorem sg_tup {k : Nat} (hc : X.calm = true) (h : PGs X es (tGs X.K ts)) (hn : (assignEach es X.env).length = tgLen ts) (hst : (assignEach es X.env).findIdx? (·.1) = none) : PG X (.Tuple es k pos) (tG X.K (.tu ts)) := by
  refine (pg_tup hc h hn hst).le fun v σ H Q ⟨E, n, d, n', R, tv, e, k⟩ => ?_
  simp only [setT] at e
  split at e
  · rename_i ds
    have tt : ∃ p xs, v = .ref p ∧ SqT X.K H p xs ∧ RVs X.K H (OE E n σ) xs ds := by
      rcases tv with tv | ⟨_, tv | ⟨p, xs, es, h1, h2, h3, h4⟩⟩
      · cases tv with | lst _ _ c _ => cases c | tup h q => exact ⟨_, _, rfl, h.sqT, q⟩
      · cases tv with | lst _ _ c _ => cases c | tup h q => exact ⟨_, _, rfl, h.sqT, q⟩
      · cases h3; exact ⟨p, xs, h1, h2, h4⟩
    obtain ⟨p, xs, rfl, h1, h2⟩ := tt
    exact ⟨p, xs, rfl, h1, by rw [h2.length]; exact setTs_len e, E, n, ds, n', R, h2, e, k⟩
  · cases e
end

/-! ### what is walked -/
abbrev SI := (Addr → Prop) → En → L2.St → Hp → Prop
/-- J walks ds as long as I holds -/
structure Src (K : PySem.W.Frag) (J : It) (ds : List PyData) (tu : Bool) (I : SI) : Prop where
  stable : ∀ {E E' : Addr → Prop} {n n' : En} {σ σ' : L2.St} {H H' : Hp}, I E n σ H → Rel K E n σ H → St0 n σ H n' σ' H' → (∀ a, E' a → E a ∨ H a = none) → I E' n' σ' H'
  go : ∀ {E : Addr → Prop} {n : En} {σ : L2.St} {H : Hp} {i : Nat} {d : PyData}, I E n σ H → Rel K E n σ H → ds[i]? = some d → J.go i H ∧ ∀ x H', J.yld i H x H' → Same H H' ∧ (RV K H' (OE E n σ) x d ∨ (tu = true ∧ IV K H' (OE E n σ) x d))
  stop : ∀ {E : Addr → Prop} {n : En} {σ : L2.St} {H : Hp} {i : Nat}, I E n σ H → ds.length ≤ i → J.stop i H
structure WR (K : PySem.W.Frag) (E : Addr → Prop) (n : En) (σ : L2.St) (H : Hp) (tu : Bool) (ds : List PyData) (src : List Nat) (n1 : En) (E1 : Addr → Prop) (H1 : Hp) (J : It) : Prop where
  rel : Rel K E1 n1 σ H1
  up : ∀ a, E a → E1 a
  step : Step n σ H n1 σ H1
  new : ∀ a, E1 a → E a ∨ H a = none
  src : ∀ n2, lock src n1 = some n2 → ∃ I, Src K J ds tu I ∧ I E1 n2 σ H1 ∧ ∀ D, E D → I (less E1 D) n2 σ (dropA H1 D)
def tI (G : GX) (W : WX) (tu : Bool) (m : M (List PyData × List Nat)) : TI := fun σ H R => ∃ E n, Rel G.K E n σ H ∧ Post G W E n σ H (fun w n1 => ∀ E1 H1 J, WR G.K E n σ H tu w.1 w.2 n1 E1 H1 J → R J H1) (m n)
theorem _root_.L2.PI.le {X : Cx} {tg e : Expr} {t t' : TI} (h : PI X tg e t) (q : ∀ σ H R, t' σ H R → t σ H R) : PI X tg e t' := ⟨fun pins s σ H R I w => h.run pins s σ H R I (q σ H R w)⟩
section
variable {K : PySem.W.Frag} {E E1 : Addr → Prop} {n n1 n2 : En} {σ : L2.St} {H H1 : Hp} {o : Opd} {v : V} {a : Addr} {xs : List V} {ds : List PyData} {src : List Nat}
/-- a list that nobody changes -/
def ILs (K : PySem.W.Frag) (a : Addr) (xs : List V) (ds : List PyData) : SI := fun E n σ H => H a = some (.lst xs) ∧ ¬ Mu n σ a ∧ RVs K H (OE E n σ) xs ds
theorem ILs.stable {E' : Addr → Prop} {n' : En} {σ' : L2.St} {H' : Hp} (h : ILs K a xs ds E n σ H) (R : Rel K E n σ H) (s : St0 n σ H n' σ' H') (hE : ∀ a, E' a → E a ∨ H a = none) : ILs K a xs ds E' n' σ' H' :=
  ⟨s.fr a _ h.1 h.2.1, fun z => (s.mu a z).elim h.2.1 (fun e => absurd (h.1.symm.trans e) (by simp)), h.2.2.pres R.lo (R.pres0 s hE)⟩
theorem srcOf_lock {j : Nat} {src : List Nat} (hj : j ∈ src) (h : lock src n1 = some n2) : (∃ d, n1[j]? = some (.val d) ∧ n2[j]? = some (.val d)) ∨ ∃ l p d, n1[j]? = some (.own l p d) ∧ n2[j]? = some (.own true p d) := ((lock_get h).2 j).2 hj
theorem ILs.of (R : Rel K E1 n1 σ H1) (h : Od K H1 (OE E1 n1 σ) σ o (.ref a)) (ht : ∀ b, tmp o (.ref a) b → E1 b) (hr : rd o n1 = .ok (.list ds) n1) (h1 : H1 a = some (.lst xs)) (hs : ∀ j ∈ srcOf o, j ∈ src) (l : lock src n1 = some n2) : ILs K a xs ds E1 n2 σ H1 := by
  have rv : RVs K H1 (OE E1 n1 σ) xs ds := by
    obtain ⟨b, ys, e, h2, h3⟩ := (rd_ok R h hr).2.list
    cases e
    rw [h1] at h2
    cases h2
    exact h3
  have noteMu : ¬ Mu n2 σ a := fun m => by
    have m1 := lock_mu l a m
    cases o with
    | v d =>
      cases hr
      have h' : RV K H1 (OE E1 n1 σ) (.ref a) (.list ds) := h
      cases h' with
      | lst ho _ _ => exact ho (.inr m1.exc)
    | f d =>
      obtain ⟨i, p, d', q1, q2⟩ := m1
      obtain ⟨b, y1, _, y3⟩ := R.own i false p d' q1
      rw [q2] at y1
      cases y1
      exact y3 (ht a rfl)
    | s j =>
      have hj : j ∈ src := hs j List.mem_cons_self
      have h' : σ[j]? = some (some (.ref a)) := h
      rcases srcOf_lock hj l with ⟨d, k1, k2⟩ | ⟨l', p', d, k1, k2⟩
      · simp only [rd, k1] at hr
        cases hr
        obtain ⟨w, y1, y2⟩ := R.val j _ k1
        rw [h'] at y1
        cases y1
        cases y2 with
        | lst ho _ _ => exact ho (.inr m1.exc)
      · obtain ⟨i, p, d', q1, q2⟩ := m
        obtain ⟨l0, z0⟩ := (lock_fl l).back q1
        have hij := R.apart i j a _ _ _ _ _ _ z0 k1 q2 h'
        subst hij
        rw [q1] at k2
        cases k2
  exact ⟨h1, noteMu, rv.anti fun a z => z.imp id ((lock_fl l).exc a)⟩
theorem ILs.srcs {E : Addr → Prop} {n : En} {H : Hp} (R0 : Rel K E n σ H) (er : ER K E n σ H o n1 (.ref a) H1) (hr : rd o n1 = .ok (.list ds) n1) (h1 : H1 a = some (.lst xs)) (hs : ∀ j ∈ srcOf o, j ∈ src) (l : lock src n1 = some n2) :
    ILs K a xs ds (orP E (tmp o (.ref a))) n2 σ H1 ∧ ∀ D, E D → ILs K a xs ds (less (orP E (tmp o (.ref a))) D) n2 σ (dropA H1 D) := by
  have q := ILs.of er.rel er.op (fun b z => .inr z) hr h1 hs l
  refine ⟨q, fun D hD => ?_⟩
  have ne : a ≠ D := fun z => by
    subst z
    cases o with
    | v d =>
      cases hr
      have h' : RV K H1 (OE (orP E (tmp (.v (.list ds)) (.ref a))) n1 σ) (.ref a) (.list ds) := er.op
      cases h' with
      | lst ho _ _ => exact ho (.inl (.inl hD))
    | f d =>
      obtain ⟨ys, e, mut0⟩ := R0.ext a hD
      rw [er.new a rfl] at e
      cases e
    | s j =>
      have h' : σ[j]? = some (some (.ref a)) := er.op
      simp only [rd] at hr
      split at hr
      · rename_i l' p' d' k
        obtain ⟨b, y1, _, y3⟩ := er.rel.own j l' p' d' k
        rw [h'] at y1
        cases y1
        exact y3 (.inl hD)
      · rename_i d' k
        cases hr
        obtain ⟨w, y1, y2⟩ := er.rel.val j _ k
        rw [h'] at y1
        cases y1
        cases y2 with
        | lst ho _ _ => exact ho (.inl (.inl hD))
      · cases hr
  have R2 : Rel K (orP E (tmp o (.ref a))) n2 σ H1 := (lock_fl l).rel er.rel
  exact ⟨by rw [dropA_ne ne]; exact q.1, q.2.1, q.2.2.pres R2.lo (dropA_pres (.inl hD))⟩
/-- a value walked -/
def IVal (K : PySem.W.Frag) (v : V) (d : PyData) : SI := fun E n σ H => RV K H (OE E n σ) v d
theorem IVal.stable {d : PyData} {E' : Addr → Prop} {n' : En} {σ' : L2.St} {H' : Hp} (h : IVal K v d E n σ H) (R : Rel K E n σ H) (s : St0 n σ H n' σ' H') (hE : ∀ a, E' a → E a ∨ H a = none) : IVal K v d E' n' σ' H' := RV.pres R.lo (R.pres0 s hE) h
theorem IVal.srcs {E : Addr → Prop} {n : En} {H : Hp} {d : PyData} (er : ER K E n σ H o n1 v H1) (h : RV K H1 (OE (orP E (tmp o v)) n1 σ) v d) (l : lock src n1 = some n2) : IVal K v d (orP E (tmp o v)) n2 σ H1 ∧ ∀ D, E D → IVal K v d (less (orP E (tmp o v)) D) n2 σ (dropA H1 D) := by
  have R2 : Rel K (orP E (tmp o v)) n2 σ H1 := (lock_fl l).rel er.rel
  have h2 : RV K H1 (OE (orP E (tmp o v)) n2 σ) v d := RV.anti (fun b z => z.imp id ((lock_fl l).exc b)) h
  exact ⟨h2, fun D hD => RV.pres R2.lo (dropA_pres (.inl hD)) h2⟩
theorem srcList : Src K (Itl K a) ds false (ILs K a xs ds) where
  stable := fun h R s hE => h.stable R s hE
  go := fun {E n σ H i d} h R e => by
    obtain ⟨x, h1, h2⟩ := h.2.2.get e
    exact ⟨⟨xs, x, .inl (.inl h.1), h1⟩, fun y H' ⟨e1, e2⟩ => by
      subst e1
      have := e2 xs (.inl (.inl h.1))
      rw [h1] at this
      cases this
      exact ⟨Same.refl _, .inl h2⟩⟩
  stop := fun {E n σ H i} h e => ⟨xs, .inl (.inl h.1), by rw [h.2.2.length]; exact e⟩
theorem srcTup : Src K (Itt K a) ds false (IVal K (.ref a) (.tuple ds)) where
  stable := fun h R s hE => h.stable R s hE
  go := fun {E n σ H i d} h R e => by
    have h' : RV K H (OE E n σ) (.ref a) (.tuple ds) := h
    cases h' with
    | lst _ _ c _ => cases c
    | tup ht q =>
      obtain ⟨x, h1, h2⟩ := q.get e
      exact ⟨⟨_, x, ht.sqT, h1⟩, fun y H' ⟨e1, e2⟩ => by
        subst e1
        have := e2 _ ht.sqT
        rw [h1] at this
        cases this
        exact ⟨Same.refl _, .inl h2⟩⟩
  stop := fun {E n σ H i} h e => by
    have h' : RV K H (OE E n σ) (.ref a) (.tuple ds) := h
    cases h' with
    | lst _ _ c _ => cases c
    | tup ht q => exact ⟨_, ht.sqT, by rw [q.length]; exact e⟩
theorem srcRevL : Src K (Itv K a xs.length) ds.reverse false (ILs K a xs ds) where
  stable := fun h R s hE => h.stable R s hE
  go := fun {E n σ H i d} h R e => by
    have hl := h.2.2.length
    have hi : i < ds.length := by rw [← List.length_reverse]; exact (List.getElem?_eq_some_iff.mp e).1
    rw [List.getElem?_reverse hi, ← hl] at e
    obtain ⟨x, h1, h2⟩ := h.2.2.get e
    exact ⟨⟨by omega, xs, x, .inl (.inl h.1), h1⟩, fun y H' ⟨e1, e2⟩ => by
      subst e1
      have := e2 xs (.inl (.inl h.1))
      rw [h1] at this
      cases this
      exact ⟨Same.refl _, .inl h2⟩⟩
  stop := fun {E n σ H i} h e => by
    have hl := h.2.2.length
    rw [List.length_reverse] at e
    show xs.length ≤ i
    omega
theorem srcRevT (hxl : xs.length = ds.length) : Src K (_root_.RT.ItvT K a xs.length) ds.reverse false (IVal K (.ref a) (.tuple ds)) where
  stable := fun h R s hE => h.stable R s hE
  go := fun {E n σ H i d} h R e => by
    have h' : RV K H (OE E n σ) (.ref a) (.tuple ds) := h
    cases h' with
    | lst _ _ c _ => cases c
    | tup ht q =>
      have hi : i < ds.length := by rw [← List.length_reverse]; exact (List.getElem?_eq_some_iff.mp e).1
      rw [List.getElem?_reverse hi, ← hxl] at e
      obtain ⟨x, h1, h2⟩ := q.get e
      exact ⟨⟨by omega, _, x, ht.sqT, h1⟩, fun y H' ⟨e1, e2⟩ => by
        subst e1
        have := e2 _ ht.sqT
        rw [h1] at this
        cases this
        exact ⟨Same.refl _, .inl h2⟩⟩
  stop := fun {E n σ H i} h e => by
    rw [List.length_reverse] at e
    show xs.length ≤ i
    omega
theorem srcStr {z : Str} : Src K (Its z) (signs z) false (fun _ _ _ _ => True) where
  stable := fun h _ _ _ => h
  go := fun {E n σ H i d} h R e => by
    unfold signs at e
    rw [List.getElem?_map] at e
    cases hc : z.cps.toList[i]? with
    | none => rw [hc] at e; cases e
    | some c =>
      rw [hc] at e
      cases e
      have hi : i < z.cps.size := by
        have := (List.getElem?_eq_some_iff.mp hc).1
        simpa using this
      have hc' : z.cps[i]? = some c := by rw [← hc, Array.getElem?_toList]
      exact ⟨hi, fun y H' ⟨e1, c', e2, e3⟩ => by
        subst e1
        rw [hc'] at e2
        cases e2
        subst e3
        exact ⟨Same.refl _, .inl (.str _)⟩⟩
  stop := fun {E n σ H i} h e => by
    unfold signs at e
    rw [List.length_map, Array.length_toList] at e
    exact e
theorem srcRng {lo hi : Int} : Src K (Itr lo (hi - lo).toNat) (rng lo hi) false (fun _ _ _ _ => True) where
  stable := fun h _ _ _ => h
  go := fun {E n σ H i d} h R e => by
    unfold rng at e
    rw [List.getElem?_map] at e
    by_cases hi' : i < (hi - lo).toNat
    · rw [List.getElem?_range hi'] at e
      cases e
      exact ⟨hi', fun y H' ⟨e1, e2⟩ => by
        subst e1 e2
        exact ⟨Same.refl _, .inl (.int _)⟩⟩
    · rw [List.getElem?_eq_none (by rw [List.length_range]; omega)] at e
      cases e
  stop := fun {E n σ H i} h e => by
    unfold rng at e
    rw [List.length_map, List.length_range] at e
    exact e
theorem srcRngC {lo c : Int} {m : Nat} : Src K (Itc lo c m) (rngC lo c m) false (fun _ _ _ _ => True) where
  stable := fun h _ _ _ => h
  go := fun {E n σ H i d} h R e => by
    unfold rngC at e
    rw [List.getElem?_map] at e
    by_cases hi' : i < m
    · rw [List.getElem?_range hi'] at e
      cases e
      exact ⟨hi', fun y H' ⟨e1, e2⟩ => by
        subst e1 e2
        exact ⟨Same.refl _, .inl (.int _)⟩⟩
    · rw [List.getElem?_eq_none (by rw [List.length_range]; omega)] at e
      cases e
  stop := fun {E n σ H i} h e => by
    unfold rngC at e
    rw [List.length_map, List.length_range] at e
    exact e
theorem srcEnum : Src K (Ite K a) (enumD ds) true (ILs K a xs ds) where
  stable := fun h R s hE => h.stable R s hE
  go := fun {E n σ H i d} h R e => by
    unfold enumD at e
    rw [List.getElem?_zipWith] at e
    cases hd : ds[i]? with
    | none => rw [hd] at e; cases hr : (List.range ds.length)[i]? <;> (rw [hr] at e; cases e)
    | some y =>
      have hi : i < ds.length := (List.getElem?_eq_some_iff.mp hd).1
      rw [hd, List.getElem?_range hi] at e
      cases e
      obtain ⟨x, h1, h2⟩ := h.2.2.get hd
      refine ⟨⟨xs, x, .inl (.inl h.1), h1⟩, fun u H' ⟨T, z, e1, e2, e3, e4⟩ => ?_⟩
      have e5 := e4 xs (.inl (.inl h.1))
      rw [h1] at e5
      cases e5
      subst e1 e3
      refine ⟨same_upd e2, .inr ⟨rfl, .inr ⟨T, _, _, rfl, .inl (.inl upd_same), rfl, .cons (.int _) (.cons (h2.pres R.lo (Same.pres (same_upd e2) fun a z => .inl z)) .nil)⟩⟩⟩
  stop := fun {E n σ H i} h e => by
    unfold enumD at e
    rw [List.length_zipWith, List.length_range, Nat.min_self] at e
    exact ⟨xs, .inl (.inl h.1), by rw [h.2.2.length]; exact e⟩
end

section
variable {X : Cx} {G : GX} {W : WX} {cf : Cf} {c a b : Ex} {tg it e1 e2 e3 : Expr} {pos p : Pos}
theorem one_form {α : Type} {k : List Opd → M α} (n : En) : bnd (evs cf (.cons c .nil)) k n = bnd (ev cf c) (fun o => k [o]) n := by
  show bnd (bnd (ev cf c) fun o => bnd (ret []) fun os => ret (o :: os)) k n = _
  unfold bnd
  cases ev cf c n <;> rfl
theorem si_plain (hK : X.K = G.K) (he : SE X G W it (ev cf c)) : PI X tg it (tI G W false (bnd (evs cf (.cons c .nil)) (walk .plain))) := by
  refine ⟨fun pins s σ H R J ⟨E, n, Rl, P⟩ => ?_⟩
  rw [one_form] at P
  have P' := post_bnd.mp P
  -- the three kinds of walks
  have wr : ∀ {o : Opd} {n1 : En} {v : V} {H1 : Hp} {d : PyData} {xs : List PyData} {j : It}, ER G.K E n σ H o n1 v H1 → rd o n1 = .ok d n1 → walkD d = some xs → Post G W E n σ H (fun w n1 => ∀ E1 H1 J, WR G.K E n σ H false w.1 w.2 n1 E1 H1 J → R J H1) (walk .plain [o] n1) →
      (∀ n2, lock (srcOf o) n1 = some n2 → ∃ I, Src G.K j xs false I ∧ I (orP E (tmp o v)) n2 σ H1 ∧ ∀ D, E D → I (less (orP E (tmp o v)) D) n2 σ (dropA H1 D)) → R j H1 := fun {o n1 v H1 d xs j} er hr hw P hs => by
    have q : walk .plain [o] n1 = .ok (xs, srcOf o) n1 := by
      show bnd (rd o) (fun d => bnd (opt (walkD d)) fun xs => ret (xs, srcOf o)) n1 = _
      unfold bnd
      rw [hr]
      dsimp only
      rw [hw]
      rfl
    rw [q] at P
    exact P _ H1 j ⟨er.rel, er.up, er.step, fun a z => z.imp id (er.new a), hs⟩
  cases ee : ev cf c n with
  | bad => rw [ee] at P'; exact P'.elim
  | err cc pl n' =>
    rw [ee] at P'
    exact (pi_list he).run pins s σ H R J ⟨E, n, Rl, by rw [ee]; exact P'⟩
  | ok o n1 =>
    rw [ee] at P'
    have P2 := P'
    obtain ⟨d, n2, er, P3⟩ := Post.pure (post_bnd.mp (show Post G W E n σ H _ (bnd (rd o) (fun d => bnd (opt (walkD d)) fun xs => ret (xs, srcOf o)) n1) from P')) fun _ _ _ => rd_noerr
    obtain ⟨xs, hw, _⟩ := post_opt P3
    cases d with
    | list ds =>
      cases hw
      refine (pi_list he).run pins s σ H R J ⟨E, n, Rl, ?_⟩
      rw [ee]
      intro v H1 er1
      obtain ⟨en, hd⟩ := rd_ok er1.rel er1.op er
      rw [en] at er
      obtain ⟨a, ys, rfl, h1, h2⟩ := hd.list
      refine ⟨a, rfl, ⟨ys, by rw [hK]; exact .inl (.inl h1)⟩, wr er1 er rfl P2 fun n3 l => ⟨_, by rw [hK]; exact srcList, ILs.srcs Rl er1 er h1 (fun j hj => hj) l⟩⟩
    | tuple ds =>
      cases hw
      refine (pi_tup he).run pins s σ H R J ⟨E, n, Rl, ?_⟩
      rw [ee]
      intro v H1 er1
      obtain ⟨en, hd⟩ := rd_ok er1.rel er1.op er
      rw [en] at er
      have hv := RT.rv_nl hd (fun _ z => by cases z) (fun _ z => by cases z)
      obtain ⟨a, ys, rfl, h1, h2⟩ := hd.tup
      refine ⟨a, rfl, ⟨ys, by rw [hK]; exact h1.sqT⟩, wr er1 er rfl P2 fun n3 l => ⟨_, by rw [hK]; exact srcTup, IVal.srcs er1 hv l⟩⟩
    | str z =>
      cases hw
      refine (pi_str he).run pins s σ H R J ⟨E, n, Rl, ?_⟩
      rw [ee]
      intro v H1 er1
      obtain ⟨en, hd⟩ := rd_ok er1.rel er1.op er
      rw [en] at er
      exact ⟨z, hd.str, wr er1 er rfl P2 fun n3 l => ⟨_, srcStr, trivial, fun _ _ => trivial⟩⟩
    | _ => cases hw
theorem small62_le {i : Int} (h : small62 i = true) : -(2 ^ 62) ≤ i ∧ i < 2 ^ 62 := by
  unfold small62 at h
  simp only [Bool.and_eq_true, decide_eq_true_eq] at h
  exact h
theorem WR.none {K : PySem.W.Frag} {E : Addr → Prop} {n n1 : En} {σ : L2.St} {H H1 : Hp} {os : List Opd} {vs : List V} {ds : List PyData} {J : It} (ar : AR K E n σ H os n1 vs H1) (h : Src K J ds false fun _ _ _ _ => True) : WR K E n σ H false ds [] n1 (orP E (tmps os vs)) H1 J :=
  ⟨ar.rel, ar.up, ar.step, fun a z => z.imp id (ar.new a), fun _ _ => ⟨_, h, trivial, fun _ _ => trivial⟩⟩
theorem si_range1 (hg : Gl X "range") (hm : X.mg "range" = none) (h1 : SA X G W [e1] (evs cf c)) (hs : starEach [e1] X.env = [(false, eval e1 X.env)]) : PI X tg (.Call (.Name "range" p) [e1] [] pos) (tI G W false (bnd (evs cf c) (walk .range1))) := by
  refine (pi_range1 hg hm h1 hs).le fun σ H R ⟨E, n, Rl, P⟩ => ?_
  refine ⟨E, n, Rl, (post_bnd.mp P).mono fun os n1 _ P1 vs H1 ar => ?_⟩
  obtain ⟨ds, rs, P2⟩ := post_rds ar.rel ar.ops P1
  split at P2
  · rename_i b
    obtain ⟨v, rfl, hv⟩ := rs.one
    cases hv.int
    split at P2
    · rename_i hb
      obtain ⟨b1, b2⟩ := small62_le hb
      have e : (b - 0).toNat = b.toNat := by rw [Int.sub_zero]
      refine ⟨b, rfl, b1, b2, ?_⟩
      rw [← e]
      exact P2 _ _ _ (WR.none ar srcRng)
    · exact P2.elim
  · exact P2.elim
theorem si_range2 (hg : Gl X "range") (hm : X.mg "range" = none) (h1 : SA X G W [e1, e2] (evs cf c)) (hs : starEach [e1, e2] X.env = [(false, eval e1 X.env), (false, eval e2 X.env)]) (hs2 : starEach [e2] X.env = [(false, eval e2 X.env)]) : PI X tg (.Call (.Name "range" p) [e1, e2] [] pos) (tI G W false (bnd (evs cf c) (walk .range2))) := by
  refine (pi_range2 hg hm h1 hs hs2).le fun σ H R ⟨E, n, Rl, P⟩ => ?_
  refine ⟨E, n, Rl, (post_bnd.mp P).mono fun os n1 _ P1 vs H1 ar => ?_⟩
  obtain ⟨ds, rs, P2⟩ := post_rds ar.rel ar.ops P1
  split at P2
  · rename_i a b
    obtain ⟨v, u, rfl, hv, hu⟩ := rs.two
    cases hv.int
    cases hu.int
    split at P2
    · rename_i hb
      obtain ⟨k1, k2⟩ := Bool.and_eq_true_iff.mp hb
      obtain ⟨a1, a2⟩ := small62_le k1
      obtain ⟨b1, b2⟩ := small62_le k2
      exact ⟨a, b, rfl, ⟨a1, a2, b1, b2⟩, P2 _ _ _ (WR.none ar srcRng)⟩
    · exact P2.elim
  · exact P2.elim
theorem si_range3 (hg : Gl X "range") (hm : X.mg "range" = none) (h1 : SA X G W [e1, e2, e3] (evs cf c)) (hp : Plain X e1 [e2, e3] pos) : PI X tg (.Call (.Name "range" p) [e1, e2, e3] [] pos) (tI G W false (bnd (evs cf c) (walk .range3))) := by
  refine (pi_range3 hg hm h1 hp.1 hp.2).le fun σ H R ⟨E, n, Rl, P⟩ => ?_
  refine ⟨E, n, Rl, (post_bnd.mp P).mono fun os n1 _ P1 vs H1 ar => ?_⟩
  obtain ⟨ds, rs, P2⟩ := post_rds ar.rel ar.ops P1
  split at P2
  · rename_i a b c
    match vs, rs with
    | [_, _, _], .cons hv (.cons hu (.cons hw .nil)) =>
      cases hv.int
      cases hu.int
      cases hw.int
      split at P2
      · rename_i hb
        exact ⟨a, b, c, _, rfl, ⟨hb.1, hb.2.1, hb.2.2.1, (Int.toNat_of_nonneg hb.2.2.2).symm⟩, P2 _ _ _ (WR.none ar srcRngC)⟩
      · exact P2.elim
  · exact P2.elim
theorem si_enum {elts : List Expr} {kk : Nat} {tpos : Pos} (hK : X.K = G.K) (hg : Gl X "enumerate") (hm : X.mg "enumerate" = none) (he : SE X G W it (ev cf c)) (hs : starEach [it] X.env = [(false, eval it X.env)]) (hs1 : starEach [it] X.env = (false, eval it X.env) :: starEach [] X.env) : PI X (.Tuple elts kk tpos) (.Call (.Name "enumerate" p) [it] [] pos) (tI G W true (bnd (evs cf (.cons c .nil)) (walk .enum))) := by
  refine (pi_enum hg hm (pa_cons he pa_nil hs1) hs).le fun σ H R ⟨E, n, Rl, P⟩ => ?_
  rw [one_form] at P
  refine ⟨E, n, Rl, (post_bnd.mp P).mono fun o n1 eo P1 v H1 er => ?_⟩
  obtain ⟨d, n2, er1, P2⟩ := Post.pure (post_bnd.mp (show Post G W E n σ H _ (bnd (rd o) (fun d => match d with | .list xs => ret (enumD xs, srcOf o) | _ => no) n1) from P1)) fun _ _ _ => rd_noerr
  obtain ⟨en, hd⟩ := rd_ok er.rel er.op er1
  rw [en] at er1 P2
  cases d with
  | list ds =>
    obtain ⟨a, ys, rfl, h1, h2⟩ := hd.list
    exact ⟨a, ys, rfl, by rw [hK]; exact .inl (.inl h1), P2 _ H1 _ ⟨er.rel, er.up, er.step, fun a z => z.imp id (er.new a), fun n3 l => ⟨_, by rw [hK]; exact srcEnum, ILs.srcs Rl er er1 h1 (fun j hj => hj) l⟩⟩⟩
  | _ => exact P2.elim
theorem si_rev (hK : X.K = G.K) (hg : Gl X "reversed") (hm : X.mg "reversed" = none) (he : SE X G W it (ev cf c)) (hs1 : starEach [it] X.env = (false, eval it X.env) :: starEach [] X.env) : PI X tg (.Call (.Name "reversed" p) [it] [] pos) (tI G W false (bnd (evs cf (.cons c .nil)) (walk .rev))) := by
  refine (_root_.RT.pi_revA hg hm he hs1).le fun σ H R ⟨E, n, Rl, P⟩ => ?_
  rw [one_form] at P
  refine ⟨E, n, Rl, (post_bnd.mp P).mono fun o n1 eo P1 v H1 er => ?_⟩
  obtain ⟨d, n2, er1, P2⟩ := Post.pure (post_bnd.mp (show Post G W E n σ H _ (bnd (rd o) (fun d => match d with | .list xs => ret (xs.reverse, srcOf o) | .tuple xs => ret (xs.reverse, srcOf o) | _ => no) n1) from P1)) fun _ _ _ => rd_noerr
  obtain ⟨en, hd⟩ := rd_ok er.rel er.op er1
  rw [en] at er1 P2
  cases d with
  | list ds =>
    obtain ⟨a, ys, rfl, h1, h2⟩ := hd.list
    exact ⟨a, ys, rfl, .inl ⟨by rw [hK]; exact .inl (.inl h1), P2 _ H1 _ ⟨er.rel, er.up, er.step, fun a z => z.imp id (er.new a), fun n3 l => ⟨_, by rw [hK]; exact srcRevL, ILs.srcs Rl er er1 h1 (fun j hj => hj) l⟩⟩⟩⟩
  | tuple ds =>
    have hv := RT.rv_nl hd (fun _ z => by cases z) (fun _ z => by cases z)
    obtain ⟨a, ys, rfl, h1, h2⟩ := hd.tup
    exact ⟨a, ys, rfl, .inr ⟨by rw [hK]; exact h1.sqT, P2 _ H1 _ ⟨er.rel, er.up, er.step, fun a z => z.imp id (er.new a), fun n3 l => ⟨_, by rw [hK]; exact srcRevT h2.length, IVal.srcs er hv l⟩⟩⟩⟩
  | _ => exact P2.elim
end
end DM
set_option Elab.async false
set_option linter.all false
set_option maxRecDepth 100000
/-! DM12: comprehensions. -/
namespace DM
open PySem PySem.Spec PyProof.Rows L2

/-! ### names forgotten, and back -/
theorem wipeN_len (n : En) : ∀ own : List Nat, (wipeN n own).length = n.length
  | [] => rfl
  | i :: is => by show ((wipeN n is).set i .emp).length = _; rw [List.length_set]; exact wipeN_len n is
theorem wipeN_in {n : En} : ∀ {own : List Nat} {j : Nat}, j ∈ own → (wipeN n own)[j]? = some .emp ∨ (wipeN n own)[j]? = none
  | i :: is, j, h => by
    show ((wipeN n is).set i .emp)[j]? = _ ∨ ((wipeN n is).set i .emp)[j]? = _
    by_cases e : i = j
    · subst e
      by_cases hi : i < (wipeN n is).length
      · exact .inl (by rw [set_get hi, if_pos rfl])
      · exact .inr (List.getElem?_eq_none (by rw [List.length_set]; omega))
    · rw [List.getElem?_set_ne e]
      exact wipeN_in ((List.mem_cons.mp h).resolve_left fun z => e z.symm)
theorem wipeN_out {n : En} : ∀ {own : List Nat} {j : Nat}, j ∉ own → (wipeN n own)[j]? = n[j]?
  | [], _, _ => rfl
  | i :: is, j, h => by
    show ((wipeN n is).set i .emp)[j]? = _
    rw [List.getElem?_set_ne fun z => h (by rw [z]; exact List.mem_cons_self)]
    exact wipeN_out fun z => h (List.mem_cons_of_mem _ z)
theorem wipeN_some {n : En} {own : List Nat} {j : Nat} {s : Sl} (h : (wipeN n own)[j]? = some s) (hs : s ≠ .emp) : j ∉ own ∧ n[j]? = some s := by
  by_cases hj : j ∈ own
  · rcases wipeN_in (n := n) hj with e | e <;> rw [h] at e
    · exact absurd (Option.some.inj e) hs
    · cases e
  · exact ⟨hj, by rw [← wipeN_out hj]; exact h⟩
theorem wipe_out' {σ : L2.St} : ∀ {own : List Nat} {j : Nat}, j ∉ own → (wipe σ own)[j]? = σ[j]?
  | [], _, _ => rfl
  | i :: is, j, h => by
    show ((wipe σ is).set i none)[j]? = _
    rw [List.getElem?_set_ne fun z => h (by rw [z]; exact List.mem_cons_self)]
    exact wipe_out' fun z => h (List.mem_cons_of_mem _ z)
theorem wipe_in {σ : L2.St} : ∀ {own : List Nat} {j : Nat}, j ∈ own → j < σ.length → (wipe σ own)[j]? = some none
  | i :: is, j, h, hl => by
    show ((wipe σ is).set i none)[j]? = _
    by_cases e : i = j
    · subst e
      rw [set_get (by rw [wipe_length]; exact hl), if_pos rfl]
    · rw [List.getElem?_set_ne e]
      exact wipe_in ((List.mem_cons.mp h).resolve_left fun z => e z.symm) hl
theorem wipe_eq {σ σ' : L2.St} {own : List Nat} (hl : σ'.length = σ.length) (h : ∀ j : Nat, j ∉ own → σ'[j]? = σ[j]?) : wipe σ' own = wipe σ own := by
  refine List.ext_getElem? fun j => ?_
  by_cases hj : j ∈ own
  · by_cases hi : j < σ.length
    · rw [wipe_in hj hi, wipe_in hj (by rw [hl]; exact hi)]
    · rw [List.getElem?_eq_none (by rw [wipe_length]; omega), List.getElem?_eq_none (by rw [wipe_length]; omega)]
  · rw [wipe_out' hj, wipe_out' hj, h j hj]
theorem wipe_wipe {σ : L2.St} {own : List Nat} : wipe (wipe σ own) own = wipe σ own := wipe_eq (wipe_length _ _) fun j hj => wipe_out' hj
theorem wipe_sub {σ : L2.St} {own own1 : List Nat} (h : ∀ i ∈ own1, i ∈ own) : wipe (wipe σ own1) own = wipe σ own := wipe_eq (wipe_length _ _) fun j hj => wipe_out' fun z => hj (h j z)
theorem wipe_chg {σ σ' : L2.St} {own is : List Nat} (h : Chg is σ σ') (hs : ∀ i ∈ is, i ∈ own) : wipe σ' own = wipe σ own := wipe_eq h.1 fun j hj => h.2 j fun z => hj (hs j z)
theorem backN_len (n0 n : En) : ∀ own : List Nat, (backN n0 n own).length = n.length
  | [] => rfl
  | i :: is => by show ((backN n0 n is).set i _).length = _; rw [List.length_set]; exact backN_len n0 n is
theorem backN_out {n0 n : En} : ∀ {own : List Nat} {j : Nat}, j ∉ own → (backN n0 n own)[j]? = n[j]?
  | [], _, _ => rfl
  | i :: is, j, h => by
    show ((backN n0 n is).set i _)[j]? = _
    rw [List.getElem?_set_ne fun z => h (by rw [z]; exact List.mem_cons_self)]
    exact backN_out fun z => h (List.mem_cons_of_mem _ z)
theorem backN_in {n0 n : En} : ∀ {own : List Nat} {j : Nat}, j ∈ own → j < n.length → (backN n0 n own)[j]? = some (n0[j]?.getD .emp)
  | i :: is, j, h, hl => by
    show ((backN n0 n is).set i _)[j]? = _
    by_cases e : i = j
    · subst e
      rw [set_get (by rw [backN_len]; exact hl), if_pos rfl]
    · rw [List.getElem?_set_ne e]
      exact backN_in ((List.mem_cons.mp h).resolve_left fun z => e z.symm) hl
section
variable {K : PySem.W.Frag} {E E1 E2 : Addr → Prop} {n n0 n1 n2 n' : En} {σ σ0 σ1 : L2.St} {H H0 H1 Hc : Hp} {own own1 : List Nat} {D : Addr}
theorem wiped_own {j : Nat} {l p : Bool} {d : PyData} (h : (wipeN n own)[j]? = some (.own l p d)) : j ∉ own ∧ n[j]? = some (.own l p d) := wipeN_some h (fun z => by cases z)
theorem wiped_exc : ∀ a, Exc (wipeN n own) (wipe σ own) a → Exc n σ a := fun a ⟨j, l, p, d, h1, h2⟩ => by
  obtain ⟨hj, h3⟩ := wiped_own h1
  rw [wipe_out' hj] at h2
  exact ⟨j, l, p, d, h3, h2⟩
theorem wiped_mu : ∀ a, Mu (wipeN n own) (wipe σ own) a → Mu n σ a := fun a ⟨j, p, d, h1, h2⟩ => by
  obtain ⟨hj, h3⟩ := wiped_own h1
  rw [wipe_out' hj] at h2
  exact ⟨j, p, d, h3, h2⟩
theorem Rel.wiped (R : Rel K E n σ H) : Rel K E (wipeN n own) (wipe σ own) H := by
  have an : ∀ a, OE E (wipeN n own) (wipe σ own) a → OE E n σ a := fun a z => z.imp id (wiped_exc a)
  refine ⟨by rw [wipeN_len, wipe_length]; exact R.len, fun j d h => ?_, fun j l p d h => ?_, fun i j a _ _ _ _ _ _ h1 h2 s1 s2 => ?_, fun j c pl h => ?_, R.ext⟩
  · obtain ⟨hj, h3⟩ := wipeN_some h (fun z => by cases z)
    obtain ⟨v, q1, q2⟩ := R.val j d h3
    exact ⟨v, by rw [wipe_out' hj]; exact q1, q2.anti an⟩
  · obtain ⟨hj, h3⟩ := wiped_own h
    obtain ⟨a, q1, q2, q3⟩ := R.own j l p d h3
    exact ⟨a, by rw [wipe_out' hj]; exact q1, q2.anti an, q3⟩
  · obtain ⟨hi, h3⟩ := wiped_own h1
    obtain ⟨hj, h4⟩ := wiped_own h2
    rw [wipe_out' hi] at s1
    rw [wipe_out' hj] at s2
    exact R.apart i j a _ _ _ _ _ _ h3 h4 s1 s2
  · obtain ⟨hj, h3⟩ := wipeN_some h (fun z => by cases z)
    exact R.noexc j c pl h3
theorem St0.wiped : St0 n σ H (wipeN n own) (wipe σ own) H := ⟨fun _ _ e _ => e, fun _ e => e, fun a z => .inl (wiped_mu a z), fun a z => .inl (wiped_exc a z)⟩
/-- behind a block's work: names of it forgotten -/
theorem Step.wiped (h : ∀ i ∈ own1, i ∈ own) (s : Step (wipeN n0 own) (wipe σ0 own) H0 n σ H) : Step (wipeN n0 own) (wipe σ0 own) H0 (wipeN n own1) (wipe σ own1) H := by
  refine ⟨s.fr, s.tr, fun a z => s.mu a (wiped_mu a z), fun a z => s.ex a (wiped_exc a z), fun i l d e => ?_, fun i p d e => ?_⟩
  · obtain ⟨hi, _⟩ := wiped_own e
    have hi1 : i ∉ own1 := fun z => hi (h i z)
    obtain ⟨l', d', q1, q2⟩ := s.pr i l d e
    exact ⟨l', d', by rw [wipeN_out hi1]; exact q1, by rw [wipe_out' hi1]; exact q2⟩
  · obtain ⟨hi, e'⟩ := wiped_own e
    obtain ⟨d', q1, q2⟩ := s.lk i p d e'
    exact ⟨d', q1, by rw [wipe_out' hi]; exact q2⟩
/-- what is new may be written -/
theorem Step.write {ys : List V} (s : Step n0 σ0 H0 n σ H) (hD : H0 D = none) : Step n0 σ0 H0 n σ (upd H D (.lst ys)) := by
  refine ⟨fun a o e m => ?_, fun a e => ?_, s.mu, s.ex, s.pr, s.lk⟩
  · rw [upd_ne fun z => by rw [z, hD] at e; cases e]
    exact s.fr a o e m
  · by_cases z : a = D
    · rw [z, upd_same]; exact fun q => by cases q
    · rw [upd_ne z]; exact s.tr a e
theorem pres_write {O : Addr → Prop} {o : HO} (h : O D) : Pres H O (upd H D o) O := ⟨fun a u e n => by
  rw [upd_ne fun z => n (by rw [z]; exact h)]
  exact e, fun _ z => .inl z⟩
theorem Rel.write {ys : List V} (R : Rel K E n σ H) (hD : E D) : Rel K E n σ (upd H D (.lst ys)) := by
  have p : Pres H (OE E n σ) (upd H D (.lst ys)) (OE E n σ) := pres_write (.inl hD)
  refine ⟨R.len, fun j d h => ?_, fun j l p' d h => ?_, R.apart, R.noexc, fun a h => ?_⟩
  · obtain ⟨v, q1, q2⟩ := R.val j d h
    exact ⟨v, q1, q2.pres R.lo p⟩
  · obtain ⟨a, q1, ⟨u0, xs, ds, q4, q5, q6⟩, q3⟩ := R.own j l p' d h
    exact ⟨a, q1, ⟨u0, xs, ds, q4, by rw [upd_ne fun z => q3 (by rw [z]; exact hD)]; exact q5, q6.pres R.lo p⟩, q3⟩
  · by_cases z : a = D
    · exact ⟨.lst ys, by rw [z, upd_same], .l ys⟩
    · obtain ⟨xs, q, mut0⟩ := R.ext a h
      exact ⟨xs, by rw [upd_ne z]; exact q, mut0⟩
/-- the new list ahead of the first turn -/
theorem Rel.newList (R : Rel K E n σ H) (hD : H D = none) : Rel K (orP E fun a => a = D) n σ (upd H D (.lst [])) :=
  R.grow (same_upd hD) (fun a q => q.imp id fun z => by rw [z]; exact hD) fun a q hn => by
    rcases q with q | q
    · obtain ⟨xs, e, mut0⟩ := R.ext a q
      rw [e] at hn
      cases hn
    · exact ⟨.lst [], by rw [q, upd_same], .l []⟩
theorem own_not {a : Addr} (R : Rel K E n σ H) (h : E a) : ¬ Mu n σ a := fun ⟨i, p, d, q1, q2⟩ => by
  obtain ⟨b, y1, _, y3⟩ := R.own i false p d q1
  rw [q2] at y1
  cases y1
  exact y3 h
/-- behind a block -/
theorem block_end (R : Rel K E1 n2 σ H1) (hf : own.all (freeSl n2) = true) (R2 : Rel K E2 (wipeN n' own) (wipe σ own) Hc) (s : Step (wipeN n2 own) (wipe σ own) H1 (wipeN n' own) (wipe σ own) Hc) (hE : ∀ a, E2 a → E1 a ∨ H1 a = none) :
    Rel K E2 (backN n2 n' own) σ Hc ∧ Step n2 σ H1 (backN n2 n' own) σ Hc ∧ ∀ a, OE E2 (backN n2 n' own) σ a → OE E2 (wipeN n' own) (wipe σ own) a := by
  have ln : n'.length = n2.length := by
    have h1 := R2.len
    have h2 := R.len
    rw [wipeN_len, wipe_length] at h1
    omega
  have bo : ∀ (j : Nat) l p d, (backN n2 n' own)[j]? = some (.own l p d) → j ∉ own ∧ (wipeN n' own)[j]? = some (.own l p d) := fun j l p d h => by
    by_cases hj : j ∈ own
    · have hl : j < n'.length := by
        have := (List.getElem?_eq_some_iff.mp h).1
        rwa [backN_len] at this
      rw [backN_in hj hl] at h
      have hfr := List.all_eq_true.mp hf j hj
      unfold freeSl at hfr
      cases hn : n2[j]? with
      | none => rw [hn] at h; cases h
      | some q =>
        rw [hn] at h hfr
        have h' : q = .own l p d := Option.some.inj h
        rw [h'] at hfr
        cases hfr
    · rw [backN_out hj] at h
      exact ⟨hj, by rw [wipeN_out hj]; exact h⟩
  have ob : ∀ (j : Nat), j ∉ own → (backN n2 n' own)[j]? = (wipeN n' own)[j]? := fun j hj => by rw [backN_out hj, wipeN_out hj]
  have ex : ∀ a, Exc (backN n2 n' own) σ a → Exc (wipeN n' own) (wipe σ own) a := fun a ⟨j, l, p, d, q1, q2⟩ => by
    obtain ⟨hj, q3⟩ := bo j l p d q1
    exact ⟨j, l, p, d, q3, by rw [wipe_out' hj]; exact q2⟩
  have mu : ∀ a, Mu (backN n2 n' own) σ a → Mu (wipeN n' own) (wipe σ own) a := fun a ⟨j, p, d, q1, q2⟩ => by
    obtain ⟨hj, q3⟩ := bo j false p d q1
    exact ⟨j, p, d, q3, by rw [wipe_out' hj]; exact q2⟩
  have an : ∀ a, OE E2 (backN n2 n' own) σ a → OE E2 (wipeN n' own) (wipe σ own) a := fun a z => z.imp id (ex a)
  have ps : Pres H1 (OE E1 n2 σ) Hc (OE E2 (backN n2 n' own) σ) := ⟨fun a o e h => s.fr a o e fun z => h (.inr (wiped_mu a z).exc), fun a h => by
    rcases h with h | h
    · exact (hE a h).imp .inl id
    · exact (s.ex a (ex a h)).imp (fun z => .inr (wiped_exc a z)) id⟩
  refine ⟨⟨by rw [backN_len, ln]; exact R.len, fun j d h => ?_, fun j l p d h => ?_, fun i j a _ _ _ _ _ _ h1 h2 s1 s2 => ?_, fun j c pl h => ?_, R2.ext⟩, ⟨fun a o e m => s.fr a o e fun z => m (wiped_mu a z), s.tr, fun a z => (s.mu a (mu a z)).imp (wiped_mu a) id, fun a z => (s.ex a (ex a z)).imp (wiped_exc a) id, fun i l d e => ?_, fun i p d e => ?_⟩, an⟩
  · by_cases hj : j ∈ own
    · have hl : j < n'.length := by
        have := (List.getElem?_eq_some_iff.mp h).1
        rwa [backN_len] at this
      rw [backN_in hj hl] at h
      cases hn : n2[j]? with
      | none => rw [hn] at h; cases h
      | some q =>
        rw [hn] at h
        have h' : q = .val d := Option.some.inj h
        subst h'
        obtain ⟨v, q1, q2⟩ := R.val j d hn
        exact ⟨v, q1, q2.pres R.lo ps⟩
    · rw [ob j hj] at h
      obtain ⟨v, q1, q2⟩ := R2.val j d h
      rw [wipe_out' hj] at q1
      exact ⟨v, q1, q2.anti an⟩
  · obtain ⟨hj, q⟩ := bo j l p d h
    obtain ⟨a, q1, q2, q3⟩ := R2.own j l p d q
    rw [wipe_out' hj] at q1
    exact ⟨a, q1, q2.anti an, q3⟩
  · obtain ⟨hi, q1⟩ := bo i _ _ _ h1
    obtain ⟨hj, q2⟩ := bo j _ _ _ h2
    exact R2.apart i j a _ _ _ _ _ _ q1 q2 (by rw [wipe_out' hi]; exact s1) (by rw [wipe_out' hj]; exact s2)
  · by_cases hj : j ∈ own
    · have hl : j < n'.length := by
        have := (List.getElem?_eq_some_iff.mp h).1
        rwa [backN_len] at this
      rw [backN_in hj hl] at h
      cases hn : n2[j]? with
      | none => rw [hn] at h; cases h
      | some q =>
        rw [hn] at h
        have h' : q = .exc c pl := Option.some.inj h
        subst h'
        exact R.noexc j c pl hn
    · rw [ob j hj] at h
      exact R2.noexc j c pl h
  · have hi : i ∉ own := fun hi => by
      have hfr := List.all_eq_true.mp hf i hi
      unfold freeSl at hfr
      rw [e] at hfr
      cases hfr
    obtain ⟨l', d', q1, q2⟩ := s.pr i l d (by rw [wipeN_out hi]; exact e)
    rw [← ob i hi] at q1
    exact ⟨l', d', q1, rfl⟩
  · obtain ⟨hi, q⟩ := bo i true p d e
    obtain ⟨d', q1, q2⟩ := s.lk i p d q
    exact ⟨d', (wiped_own q1).2, rfl⟩
end

/-! ### the turns -/
theorem turns_cons {F : PyData → M (List PyData)} {x : PyData} {xs : List PyData} {n n3 : En} {r : List PyData} (e : turns F (x :: xs) n = .ok r n3) : ∃ a n1 b, F x n = .ok a n1 ∧ turns F xs n1 = .ok b n3 ∧ r = a ++ b := by
  obtain ⟨a, n1, e1, e⟩ := bnd_ok (show bnd (F x) (fun a => bnd (turns F xs) fun b => ret (a ++ b)) n = .ok r n3 from e)
  obtain ⟨b, n2, e2, e⟩ := bnd_ok e
  cases e
  exact ⟨a, n1, b, e1, e2, rfl⟩
def WF : WX := fun _ _ _ _ => False
theorem drop_cons {α : Type} {xs : List α} {i : Nat} (h : i < xs.length) : xs.drop i = xs[i] :: xs.drop (i + 1) := List.drop_eq_getElem_cons h
/-- the work of a comprehension's turn -/
def lcF (cf : Cf) (own : List Nat) (tg : Tg) (ifs elt : Ex) : PyData → M (List PyData) := fun x => inBlock own (bnd (setT tg x) fun _ => bnd (tst cf ifs) fun t =>
  if t then bnd (ev cf elt) fun o => bnd (keep o) fun d => ret [d] else ret [])
/-- an element's turn from its store on: what it comes to -/
structure Turned (cf : Cf) (tg : Tg) (ifs elt : Ex) (x : PyData) (n : En) (a : List PyData) (n4 : En) : Prop where
  ok : ∃ n1 t n2, setT tg x n = .ok () n1 ∧ tst cf ifs n1 = .ok t n2 ∧ ((t = false ∧ a = [] ∧ n4 = n2) ∨ (t = true ∧ ∃ o n3 d, ev cf elt n2 = .ok o n3 ∧ keep o n3 = .ok d n4 ∧ a = [d]))
theorem lcF_ok {cf : Cf} {own : List Nat} {tg : Tg} {ifs elt : Ex} {x : PyData} {n n4 : En} {a : List PyData} (e : lcF cf own tg ifs elt x n = .ok a n4) : Turned cf tg ifs elt x (wipeN n own) a n4 := by
  obtain ⟨_, n1, e1, e⟩ := bnd_ok (show bnd (setT tg x) _ (wipeN n own) = .ok a n4 from e)
  obtain ⟨t, n2, e2, e⟩ := bnd_ok e
  refine ⟨n1, t, n2, e1, e2, ?_⟩
  cases t with
  | false =>
    rw [if_neg Bool.false_ne_true] at e
    cases e
    exact .inl ⟨rfl, rfl, rfl⟩
  | true =>
    rw [if_pos rfl] at e
    obtain ⟨o, n3, e3, e⟩ := bnd_ok e
    obtain ⟨d, n4', e4, e⟩ := bnd_ok e
    cases e
    exact .inr ⟨rfl, o, n3, d, e3, e4, rfl⟩
section
variable {G : GX} {W : WX} {cf : Cf} {own : List Nat} {tg : Tg} {ifs elt : Ex} {K : PySem.W.Frag}
/-- one element's turn, over the abstract heap: from a store on to the next turn -/
theorem turn_el {σ σe : L2.St} {n n4 : En} {H : Hp} {E2 : Addr → Prop} {D : Addr} {acc : List V} {accD a : List PyData} {x : PyData} {xv : V} {Nx : Hp → Prop} (hw : wipe σ own = σe) (hown : ∀ i ∈ tgN tg, i ∈ own) (R : Rel G.K E2 n σ H) (ED : E2 D) (hD : H D = some (.lst acc)) (ra : RVs G.K H (OE E2 n σ) acc accD) (hz : acc.length + a.length ≤ sizeLine)
    (tv : TV tg G.K H (OE E2 n σ) xv x) (T : Turned cf tg ifs elt x n a n4)
    (hN : ∀ σ4 H4 acc', Rel G.K E2 n4 σ4 H4 → wipe σ4 own = σe → H4 D = some (.lst acc') → RVs G.K H4 (OE E2 n4 σ4) acc' (accD ++ a) → (∀ nb σb Hb, Hb D = none → Step nb σb Hb n σ H → Step nb σb Hb n4 σ4 H4) → Nx H4) :
    tG G.K tg xv σ H fun σ2 H2 => wipe σ2 own = σe ∧ tT G WF (tst cf ifs) σ2 H2 fun b H3 =>
      if b = true then tE G WF (ev cf elt) σ2 H3 fun y H4 => ∃ acc, H4 D = some (.lst acc) ∧ acc.length < sizeLine ∧ Nx (upd H4 D (.lst (acc ++ [y]))) else Nx H3 := by
  obtain ⟨n1, t, n2, e1, e2, e3⟩ := T.ok
  refine ⟨E2, n, x, n1, R, tv, e1, fun σ1 R1 s1 c1 => ⟨(wipe_chg c1 hown).trans hw, E2, n1, R1, ?_⟩⟩
  rw [e2]
  intro H3 R3 s3
  have s13 := s1.trans s3
  have D3 : H3 D = some (.lst acc) := s13.fr D _ hD (own_not R ED)
  have ra3 : RVs G.K H3 (OE E2 n2 σ1) acc accD := ra.pres R.lo (R.pres s13 fun a z => .inl z)
  rcases e3 with ⟨rfl, rfl, rfl⟩ | ⟨rfl, o, n3, d, e4, e5, rfl⟩
  · rw [if_neg Bool.false_ne_true]
    exact hN σ1 H3 acc R3 ((wipe_chg c1 hown).trans hw) D3 (by rw [List.append_nil]; exact ra3) fun nb σb Hb hb sb => sb.trans s13
  · rw [if_pos rfl]
    refine ⟨E2, n2, R3, ?_⟩
    rw [e4]
    intro v H4 er
    have hfree : ∀ a, tmp o v a → ¬ E2 a := fun a z ze => by
      obtain ⟨xs, e, mut0⟩ := R3.ext a ze
      rw [er.new a z] at e
      cases e
    obtain ⟨R5, rv, s5, _⟩ := keep_ok er.rel er.op hfree e5
    have s45 := er.step.trans s5
    have s15 := s13.trans s45
    have D4 : H4 D = some (.lst acc) := s45.fr D _ D3 (own_not R3 ED)
    have ra4 : RVs G.K H4 (OE E2 n4 σ1) acc accD := ra3.pres R3.lo (R3.pres s45 fun a z => .inl z)
    refine ⟨acc, D4, by simp only [List.length_singleton] at hz; omega, hN σ1 _ (acc ++ [v]) (R5.write ED) ((wipe_chg c1 hown).trans hw) upd_same ?_ fun nb σb Hb hb sb => (sb.trans s15).write hb⟩
    exact (ra4.append (.cons rv .nil)).pres R5.lo (pres_write (.inl ED))
end
end DM
set_option Elab.async false
set_option linter.all false
set_option maxRecDepth 100000
/-! DM13: comprehensions as expressions. -/
namespace DM
open PySem PySem.Spec PyProof.Rows L2
section
variable {G : GX} {W : WX} {cf : Cf} {own own1 : List Nat} {tg tg1 : Tg} {k k1 : Ik} {its ifs its1 ifs1 elt : Ex}
theorem block_ok {m : M (List PyData)} {n n3 : En} {r : List PyData} (e : block own m n = .ok r n3) : own.all (freeSl n) = true ∧ ∃ n', m n = .ok r n' ∧ r.length ≤ sizeLine ∧ n3 = backN n n' own := by
  unfold block at e
  split at e
  · rename_i hf
    refine ⟨hf, ?_⟩
    split at e
    · rename_i a n' em
      split at e
      · rename_i hl
        cases e
        exact ⟨n', em, hl, rfl⟩
      · cases e
    · cases e
  · cases e
theorem block_noerr {m : M (List PyData)} {n n3 : En} {c : Nat} {pl : PyData} : block own m n ≠ .err c pl n3 := fun e => by
  unfold block at e
  split at e
  · split at e
    · split at e <;> cases e
    · cases e
  · cases e
/-- behind the walk: the whole of a comprehension's run -/
theorem comp_parts {α : Type} {F : List PyData → M (List PyData)} {w : List PyData × List Nat} {n1 : En} {E : Addr → Prop} {n : En} {σ : L2.St} {H : Hp} {P : Opd → En → Prop} (h : Post G W E n σ H P (bnd (locked w.2 (block own (F w.1))) (fun ds => ret (Opd.f (.list ds))) n1)) :
    ∃ n2 all n3, lock w.2 n1 = some n2 ∧ own.all (freeSl n2) = true ∧ F w.1 n2 = .ok all n3 ∧ all.length ≤ sizeLine ∧ P (.f (.list all)) (unlock n1 w.2 (backN n2 n3 own)) := by
  have h1 := post_bnd.mp h
  cases hl : lock w.2 n1 with
  | none =>
    have e : locked w.2 (block own (F w.1)) n1 = .bad := by unfold locked; rw [hl]
    rw [e] at h1
    exact h1.elim
  | some n2 =>
    have e : locked w.2 (block own (F w.1)) n1 = (block own (F w.1) n2).mapN (unlock n1 w.2) := by unfold locked; rw [hl]
    rw [e] at h1
    cases hb : block own (F w.1) n2 with
    | bad => rw [hb] at h1; exact h1.elim
    | err c pl n' => exact absurd hb block_noerr
    | ok r n' =>
      rw [hb] at h1
      obtain ⟨hf, n3, em, hlen, rfl⟩ := block_ok hb
      exact ⟨n2, r, n3, rfl, hf, em, hlen, h1⟩
/-- the state ahead of the i-th turn of a loop that makes the list at D: the base (n2, σ, H1), the turns left -/
structure LcAt (K : PySem.W.Frag) (own : List Nat) (F : PyData → M (List PyData)) (ds all : List PyData) (n3 : En) (n2 : En) (σ : L2.St) (H1 : Hp) (E2 : Addr → Prop) (D : Addr) (i : Nat) (H : Hp) (n : En) (acc : List V) (accD rest : List PyData) : Prop where
  le : i ≤ ds.length
  rel : Rel K E2 (wipeN n own) (wipe σ own) H
  step : Step (wipeN n2 own) (wipe σ own) H1 (wipeN n own) (wipe σ own) H
  atD : H D = some (.lst acc)
  rvs : RVs K H (OE E2 (wipeN n own) (wipe σ own)) acc accD
  left : turns F (ds.drop i) n = .ok rest n3
  sum : accD ++ rest = all
theorem tE_comp {σ : L2.St} {H : Hp} {Q : VK} (ho : ∀ i ∈ tgN tg, i ∈ own) (h : tE G W (ev cf (.comp own tg k its ifs elt)) σ H Q) :
    tLc (tI G W (isTu tg) (bnd (evs cf its) (walk k))) (tG G.K tg) (tT G WF (tst cf ifs)) (tE G WF (ev cf elt)) own σ H Q := by
  obtain ⟨E, n, R, P⟩ := h
  refine ⟨E, n, R, (post_bnd.mp (show Post G W E n σ H _ (bnd (bnd (evs cf its) (walk k)) (fun w => bnd (locked w.2 (block own (turns (lcF cf own tg ifs elt) w.1))) fun ds => ret (Opd.f (.list ds))) n) from P)).mono fun w n1 _ P1 E1 H1 J wr D hD => ?_⟩
  obtain ⟨n2, all, n3, hl, hf, ht, hlen, hQ⟩ := comp_parts (α := Unit) (F := fun xs => turns (lcF cf own tg ifs elt) xs) P1
  obtain ⟨I, S, I0, _⟩ := wr.src n2 hl
  have R2 : Rel G.K E1 n2 σ H1 := (lock_fl hl).rel wr.rel
  have hE2 : ∀ a, (orP E1 fun a => a = D) a → E1 a ∨ H1 a = none := fun a z => z.imp id fun z => by rw [z]; exact hD
  -- the walked at any later state
  have src : ∀ {i : Nat} {Hc : Hp} {nc : En} {acc : List V} {accD rest : List PyData}, LcAt G.K own (lcF cf own tg ifs elt) w.1 all n3 n2 σ H1 (orP E1 fun a => a = D) D i Hc nc acc accD rest → I (orP E1 fun a => a = D) (wipeN nc own) (wipe σ own) Hc := fun {i Hc nc acc accD rest} L =>
    S.stable I0 R2 (St0.wiped.trans L.step.st0) hE2
  refine ⟨fun i m Hc => m = w.1.length - i ∧ ∃ nc acc accD rest, LcAt G.K own (lcF cf own tg ifs elt) w.1 all n3 n2 σ H1 (orP E1 fun a => a = D) D i Hc nc acc accD rest, ⟨w.1.length, by simp, n2, [], [], all, ?_⟩, fun i m Hc ⟨em, nc, acc, accD, rest, L⟩ => ?_⟩
  · exact ⟨Nat.zero_le _, (R2.wiped).newList hD, Step.refl.write hD, upd_same, .nil, by rw [List.drop_zero]; exact ht, rfl⟩
  · by_cases hi : i < w.1.length
    · refine .inr ?_
      have left := L.left
      rw [drop_cons hi] at left
      obtain ⟨a, n5, b, f1, f2, f3⟩ := turns_cons left
      have hx : w.1[i]? = some w.1[i] := List.getElem?_eq_getElem hi
      obtain ⟨hgo, hy⟩ := S.go (src L) L.rel hx
      refine ⟨hgo, fun H' => ∃ nc acc accD rest, LcAt G.K own (lcF cf own tg ifs elt) w.1 all n3 n2 σ H1 (orP E1 fun a => a = D) D (i + 1) H' nc acc accD rest, fun H' z => ⟨w.1.length - (i + 1), by omega, rfl, z⟩, fun xv H' yl => ?_⟩
      obtain ⟨sm, iv⟩ := hy xv H' yl
      have sy : Step (wipeN nc own) (wipe σ own) Hc (wipeN nc own) (wipe σ own) H' := Step.same sm
      have Ry : Rel G.K (orP E1 fun a => a = D) (wipeN nc own) (wipe σ own) H' := L.rel.grow sm (fun a z => .inl z) fun a z hn => by
        obtain ⟨xs, e, mut0⟩ := L.rel.ext a z
        rw [e] at hn
        cases hn
      refine turn_el (Nx := fun H' => ∃ nc acc accD rest, LcAt G.K own (lcF cf own tg ifs elt) w.1 all n3 n2 σ H1 (orP E1 fun a => a = D) D (i + 1) H' nc acc accD rest) (x := w.1[i]) wipe_wipe ho Ry (.inr rfl) (sm _ _ L.atD) (L.rvs.pres L.rel.lo (L.rel.pres sy fun a z => .inl z)) ?_ (iv.imp id fun z => z) (lcF_ok f1) fun σ4 H4 acc' R4 e4 D4 ra4 st4 => ?_
      · have e1 := L.rvs.length
        have e2 := L.sum
        rw [f3] at e2
        have e3 := congrArg List.length e2
        simp only [List.length_append] at e3
        omega
      · have s4 : Step (wipeN n2 own) (wipe σ own) H1 (wipeN n5 own) (wipe σ own) H4 := by
          have := (st4 _ _ _ hD (L.step.trans sy)).wiped (own1 := own) fun _ z => z
          rw [e4] at this
          exact this
        have rel5 : Rel G.K (orP E1 fun a => a = D) (wipeN n5 own) (wipe σ own) H4 := by
          have := R4.wiped (own := own)
          rw [e4] at this
          exact this
        refine ⟨n5, acc', accD ++ a, b, hi, rel5, s4, D4, ra4.anti fun q z => ?_, f2, by rw [List.append_assoc, ← f3]; exact L.sum⟩
        rw [← e4] at z
        exact z.imp id (wiped_exc q)
    · refine .inl ⟨S.stop (src L) (by omega), ?_⟩
      have ei : i = w.1.length := by have := L.le; omega
      have left := L.left
      rw [ei, List.drop_length] at left
      have left' : Res.ok [] nc = Res.ok rest n3 := left
      have er : rest = [] ∧ nc = n3 := by cases left'; exact ⟨rfl, rfl⟩
      obtain ⟨rb, sb, an⟩ := block_end R2 hf L.rel L.step hE2
      rw [← er.2] at hQ
      have ru : Rel G.K (orP E1 fun a => a = D) (unlock n1 w.2 (backN n2 nc own)) σ Hc := unlock_rel rb
      have su := wr.step.trans (lock_step hl sb)
      have ea : accD = all := by have := L.sum; rwa [er.1, List.append_nil] at this
      have up : ∀ a, orP E (tmp (.f (.list all)) (V.ref D)) a → (orP E1 fun a => a = D) a := fun a z => z.imp (wr.up a) fun z => by cases z; rfl
      refine hQ (.ref D) Hc ⟨ru.weak up, ⟨D, rfl, _, acc, all, .lst, L.atD, ?_⟩, su, fun a z => ?_⟩
      · rw [← ea]
        exact L.rvs.anti fun q z => an q (z.imp (fun z => by rw [ea] at z; exact up q z) (unlock_fl.exc q))
      · cases z
        cases e : H D with
        | none => rfl
        | some o => exact absurd hD (wr.step.tr D (by rw [e]; exact fun h => by cases h))
end

/-! ### two clauses -/
/-- locked ahead (n to n2), worked (n2 to n'), unlocked (n' to u) -/
structure Brk (n n2 n' u : En) : Prop where
  len : n2.length = n.length
  lenu : u.length = n'.length
  lk : ∀ j : Nat, n2[j]? = n[j]? ∨ ∃ l p d, n[j]? = some (.own l p d) ∧ n2[j]? = some (.own true p d)
  un : ∀ j : Nat, u[j]? = n'[j]? ∨ ∃ p d, n'[j]? = some (.own true p d) ∧ u[j]? = some (.own false p d) ∧ ∃ p0 d0, n[j]? = some (.own false p0 d0)
  back : ∀ (j : Nat) p d, u[j]? = some (.own true p d) → (∃ p0 d0, n[j]? = some (.own false p0 d0)) → n2[j]? = n[j]?
section
variable {n n2 n' u : En} {σ σ' : L2.St} {H H' : Hp} {src own : List Nat}
theorem Brk.of (h : lock src n = some n2) : Brk n n2 n' (unlock n src n') := by
  obtain ⟨h1, g⟩ := lock_get h
  obtain ⟨h2, v⟩ := unlock_get (n0 := n) (src := src) (n := n')
  refine ⟨h1, h2, fun j => ?_, fun j => ?_, fun j p d e ⟨p0, d0, e0⟩ => ?_⟩
  · by_cases hj : j ∈ src
    · rcases (g j).2 hj with ⟨d, q1, q2⟩ | ⟨l, p, d, q1, q2⟩
      · exact .inl (by rw [q1, q2])
      · exact .inr ⟨l, p, d, q1, q2⟩
    · exact .inl ((g j).1 hj)
  · rcases v j with ⟨e, _⟩ | ⟨p, d, q1, q2, q3, q4⟩
    · exact .inl e
    · refine .inr ⟨p, d, q3, q4, ?_⟩
      unfold wasFree at q2
      split at q2
      · rename_i p1 d1 hf
        exact ⟨p1, d1, hf⟩
      · cases q2
  · by_cases hj : j ∈ src
    · rcases v j with ⟨e1, e2⟩ | ⟨p1, d1, q1, q2, q3, q4⟩
      · refine absurd ⟨hj, ?_, p, d, by rw [← e1]; exact e⟩ e2
        unfold wasFree
        rw [e0]
      · rw [e] at q4; cases q4
    · exact (g j).1 hj
theorem wipeN_at {n m : En} (h : n.length = m.length) {j : Nat} (hj : j ∈ own) : (wipeN n own)[j]? = (wipeN m own)[j]? := by
  by_cases hl : j < n.length
  · rcases wipeN_in (n := n) hj with e | e
    · rcases wipeN_in (n := m) hj with e2 | e2
      · rw [e, e2]
      · have := List.getElem?_eq_none_iff.mp e2
        rw [wipeN_len] at this
        omega
    · have := List.getElem?_eq_none_iff.mp e
      rw [wipeN_len] at this
      omega
  · rw [List.getElem?_eq_none (by rw [wipeN_len]; omega), List.getElem?_eq_none (by rw [wipeN_len]; omega)]
theorem Brk.wiped (b : Brk n n2 n' u) : Brk (wipeN n own) (wipeN n2 own) (wipeN n' own) (wipeN u own) := by
  refine ⟨by rw [wipeN_len, wipeN_len]; exact b.len, by rw [wipeN_len, wipeN_len]; exact b.lenu, fun j => ?_, fun j => ?_, fun j p d e ⟨p0, d0, e0⟩ => ?_⟩
  · by_cases hj : j ∈ own
    · exact .inl (wipeN_at b.len hj)
    · rw [wipeN_out hj, wipeN_out hj]; exact b.lk j
  · by_cases hj : j ∈ own
    · exact .inl (wipeN_at b.lenu hj)
    · rw [wipeN_out hj, wipeN_out hj, wipeN_out hj]; exact b.un j
  · obtain ⟨hj, e1⟩ := wiped_own e
    obtain ⟨_, e2⟩ := wiped_own e0
    rw [wipeN_out hj, wipeN_out hj]
    exact b.back j p d e1 ⟨p0, d0, e2⟩
theorem Brk.step (b : Brk n n2 n' u) (s : Step n2 σ H n' σ' H') : Step n σ H u σ' H' := by
  have mu2 : ∀ a, Mu n2 σ a → Mu n σ a := fun a ⟨j, p, d, h1, h2⟩ => by
    rcases b.lk j with e | ⟨l, p', d', _, e⟩
    · exact ⟨j, p, d, by rw [← e]; exact h1, h2⟩
    · rw [h1] at e; cases e
  have ex2 : ∀ a, Exc n2 σ a → Exc n σ a := fun a ⟨j, l, p, d, h1, h2⟩ => by
    rcases b.lk j with e | ⟨l', p', d', e0, e⟩
    · exact ⟨j, l, p, d, by rw [← e]; exact h1, h2⟩
    · exact ⟨j, l', p', d', e0, h2⟩
  have exu : ∀ a, Exc u σ' a → Exc n' σ' a := fun a ⟨j, l, p, d, h1, h2⟩ => by
    rcases b.un j with e | ⟨p', d', e0, e, _⟩
    · exact ⟨j, l, p, d, by rw [← e]; exact h1, h2⟩
    · exact ⟨j, true, p', d', e0, h2⟩
  refine ⟨fun a o e m => s.fr a o e fun z => m (mu2 a z), s.tr, fun a ⟨j, p, d, h1, h2⟩ => ?_, fun a z => (s.ex a (exu a z)).imp (ex2 a) id, fun i l d e => ?_, fun i p d e => ?_⟩
  · rcases b.un j with e | ⟨p', d', q1, q2, p0, d0, q3⟩
    · exact (s.mu a ⟨j, p, d, by rw [← e]; exact h1, h2⟩).imp (mu2 a) id
    · obtain ⟨d1, k1, k2⟩ := s.lk j p' d' q1
      exact .inl ⟨j, p0, d0, q3, by rw [← k2]; exact h2⟩
  · have e2 : ∃ l2 d2, n2[i]? = some (.own l2 true d2) := by
      rcases b.lk i with q | ⟨l1, p, d', q1, q2⟩
      · exact ⟨l, d, by rw [q]; exact e⟩
      · rw [e] at q1; cases q1; exact ⟨true, d, q2⟩
    obtain ⟨l2, d2, e2⟩ := e2
    obtain ⟨l3, d3, e3, e4⟩ := s.pr i l2 d2 e2
    rcases b.un i with q | ⟨p, d', q1, q2, _⟩
    · exact ⟨l3, d3, by rw [q]; exact e3, e4⟩
    · rw [e3] at q1; cases q1; exact ⟨false, d3, q2, e4⟩
  · rcases b.un i with q | ⟨p', d', q1, q2, _⟩
    · obtain ⟨d0, k1, k2⟩ := s.lk i p d (by rw [← q]; exact e)
      rcases b.lk i with q2 | ⟨l1, p1, d1, q3, q4⟩
      · exact ⟨d0, by rw [← q2]; exact k1, k2⟩
      · cases l1 with
        | true =>
          rw [k1] at q4
          cases q4
          exact ⟨d0, q3, k2⟩
        | false =>
          have := b.back i p d e ⟨p1, d1, q3⟩
          rw [k1, q3] at this
          cases this
    · rw [e] at q2; cases q2
end
theorem Fl.wiped {n n' : En} {own : List Nat} (f : Fl n n') : Fl (wipeN n own) (wipeN n' own) := by
  refine ⟨by rw [wipeN_len, wipeN_len]; exact f.len, fun j => ?_⟩
  by_cases hj : j ∈ own
  · exact .inl (wipeN_at f.len hj)
  · rw [wipeN_out hj, wipeN_out hj]
    exact f.at_ j
theorem wipeN_wipeN {n : En} {own own1 : List Nat} (h : ∀ i ∈ own1, i ∈ own) : wipeN (wipeN n own1) own = wipeN n own := by
  refine List.ext_getElem? fun j => ?_
  by_cases hj : j ∈ own
  · exact wipeN_at (wipeN_len _ _) hj
  · rw [wipeN_out hj, wipeN_out hj, wipeN_out fun z => hj (h j z)]
/-- the work of a turn that has a loop of its own -/
def lcF2 (cf : Cf) (own own1 : List Nat) (tg : Tg) (ifs : Ex) (tg1 : Tg) (k1 : Ik) (its1 ifs1 elt : Ex) : PyData → M (List PyData) := fun x => inBlock own (bnd (setT tg x) fun _ => bnd (tst cf ifs) fun t =>
  if t then bnd (bnd (evs cf its1) (walk k1)) fun w1 => locked w1.2 (turns (lcF cf own1 tg1 ifs1 elt) w1.1) else ret [])
section
variable {G : GX} {W : WX} {cf : Cf} {own own1 : List Nat} {tg tg1 : Tg} {k k1 : Ik} {its ifs its1 ifs1 elt : Ex}
theorem lcF2_ok {x : PyData} {n n4 : En} {a : List PyData} (e : lcF2 cf own own1 tg ifs tg1 k1 its1 ifs1 elt x n = .ok a n4) :
    ∃ n1 t n2, setT tg x (wipeN n own) = .ok () n1 ∧ tst cf ifs n1 = .ok t n2 ∧ ((t = false ∧ a = [] ∧ n4 = n2) ∨
      (t = true ∧ ∃ w nw nx n5, bnd (evs cf its1) (walk k1) n2 = .ok w nw ∧ lock w.2 nw = some nx ∧ turns (lcF cf own1 tg1 ifs1 elt) w.1 nx = .ok a n5 ∧ n4 = unlock nw w.2 n5)) := by
  obtain ⟨_, n1, e1, e⟩ := bnd_ok (show bnd (setT tg x) _ (wipeN n own) = .ok a n4 from e)
  obtain ⟨t, n2, e2, e⟩ := bnd_ok e
  refine ⟨n1, t, n2, e1, e2, ?_⟩
  cases t with
  | false =>
    rw [if_neg Bool.false_ne_true] at e
    cases e
    exact .inl ⟨rfl, rfl, rfl⟩
  | true =>
    rw [if_pos rfl] at e
    obtain ⟨w, nw, e3, e⟩ := bnd_ok e
    unfold locked at e
    split at e
    · rename_i nx hl
      cases ht : turns (lcF cf own1 tg1 ifs1 elt) w.1 nx with
      | ok r n5 =>
        rw [ht] at e
        cases e
        exact .inr ⟨rfl, w, nw, nx, n5, e3, hl, ht, rfl⟩
      | err c pl n5 => rw [ht] at e; cases e
      | bad => rw [ht] at e; cases e
    · cases e
/-- the state ahead of an inner turn -/
structure LcIn (K : PySem.W.Frag) (own1 : List Nat) (F : PyData → M (List PyData)) (ds all : List PyData) (n5 : En) (nx : En) (σ2 : L2.St) (H4 : Hp) (E3 : Addr → Prop) (D : Addr) (j : Nat) (H : Hp) (n : En) (acc : List V) (accD rest : List PyData) : Prop where
  le : j ≤ ds.length
  rel : Rel K E3 (wipeN n own1) (wipe σ2 own1) H
  step : Step (wipeN nx own1) (wipe σ2 own1) (dropA H4 D) (wipeN n own1) (wipe σ2 own1) H
  atD : H D = some (.lst acc)
  rvs : RVs K H (OE E3 (wipeN n own1) (wipe σ2 own1)) acc accD
  left : turns F (ds.drop j) n = .ok rest n5
  sum : accD ++ rest = all
theorem tE_comp2 {σ : L2.St} {H : Hp} {Q : VK} (ho : ∀ i ∈ tgN tg, i ∈ own) (ho1 : ∀ i ∈ tgN tg1, i ∈ own1) (hs : ∀ i ∈ own1, i ∈ own) (h : tE G W (ev cf (.comp2 own own1 tg k its ifs tg1 k1 its1 ifs1 elt)) σ H Q) :
    tLc2 (tI G W (isTu tg) (bnd (evs cf its) (walk k))) (tG G.K tg) (tT G WF (tst cf ifs)) (tI G WF (isTu tg1) (bnd (evs cf its1) (walk k1))) (tG G.K tg1) (tT G WF (tst cf ifs1)) (tE G WF (ev cf elt)) own own1 σ H Q := by
  obtain ⟨E, n, R, P⟩ := h
  refine ⟨E, n, R, (post_bnd.mp (show Post G W E n σ H _ (bnd (bnd (evs cf its) (walk k)) (fun w => bnd (locked w.2 (block own (turns (lcF2 cf own own1 tg ifs tg1 k1 its1 ifs1 elt) w.1))) fun ds => ret (Opd.f (.list ds))) n) from P)).mono fun w n1 _ P1 E1 H1 J wr D hD => ?_⟩
  obtain ⟨n2, all, n3, hl, hf, ht, hlen, hQ⟩ := comp_parts (α := Unit) (F := fun xs => turns (lcF2 cf own own1 tg ifs tg1 k1 its1 ifs1 elt) xs) P1
  obtain ⟨I, S, I0, _⟩ := wr.src n2 hl
  have R2 : Rel G.K E1 n2 σ H1 := (lock_fl hl).rel wr.rel
  have hE2 : ∀ a, (orP E1 fun a => a = D) a → E1 a ∨ H1 a = none := fun a z => z.imp id fun z => by rw [z]; exact hD
  generalize hF : lcF2 cf own own1 tg ifs tg1 k1 its1 ifs1 elt = F at ht
  generalize hE : (orP E1 fun a => a = D) = E2 at hE2
  have ED : E2 D := by rw [← hE]; exact .inr rfl
  have src : ∀ {i : Nat} {Hc : Hp} {nc : En} {acc : List V} {accD rest : List PyData}, LcAt G.K own F w.1 all n3 n2 σ H1 E2 D i Hc nc acc accD rest → I E2 (wipeN nc own) (wipe σ own) Hc := fun {i Hc nc acc accD rest} L =>
    S.stable I0 R2 (St0.wiped.trans L.step.st0) hE2
  refine ⟨fun i m Hc => m = w.1.length - i ∧ ∃ nc acc accD rest, LcAt G.K own F w.1 all n3 n2 σ H1 E2 D i Hc nc acc accD rest, ⟨w.1.length, by simp, n2, [], [], all, ?_⟩, fun i m Hc ⟨em, nc, acc, accD, rest, L⟩ => ?_⟩
  · exact ⟨Nat.zero_le _, by rw [← hE]; exact (R2.wiped).newList hD, Step.refl.write hD, upd_same, .nil, by rw [List.drop_zero]; exact ht, rfl⟩
  · by_cases hi : i < w.1.length
    · refine .inr ?_
      have left := L.left
      rw [drop_cons hi] at left
      obtain ⟨a, n5, b, f1, f2, f3⟩ := turns_cons left
      have hx : w.1[i]? = some w.1[i] := List.getElem?_eq_getElem hi
      obtain ⟨hgo, hy⟩ := S.go (src L) L.rel hx
      refine ⟨hgo, fun H' => ∃ nc acc accD rest, LcAt G.K own F w.1 all n3 n2 σ H1 E2 D (i + 1) H' nc acc accD rest, fun H' z => ⟨w.1.length - (i + 1), by omega, rfl, z⟩, fun xv H' yl => ?_⟩
      obtain ⟨sm, iv⟩ := hy xv H' yl
      have sy : Step (wipeN nc own) (wipe σ own) Hc (wipeN nc own) (wipe σ own) H' := Step.same sm
      have Ry : Rel G.K E2 (wipeN nc own) (wipe σ own) H' := L.rel.grow sm (fun a z => .inl z) fun a z hn => by
        obtain ⟨xs, e, mut0⟩ := L.rel.ext a z
        rw [e] at hn
        cases hn
      have s0 : Step (wipeN n2 own) (wipe σ own) H1 (wipeN nc own) (wipe σ own) H' := L.step.trans sy
      have hza : acc.length + a.length ≤ sizeLine := by
        have e1 := L.rvs.length
        have e2 := L.sum
        rw [f3] at e2
        have e3 := congrArg List.length e2
        simp only [List.length_append] at e3
        omega
      have fin : ∀ {n4 : En} {H4 : Hp} {acc' : List V}, Rel G.K E2 (wipeN n4 own) (wipe σ own) H4 → Step (wipeN n2 own) (wipe σ own) H1 (wipeN n4 own) (wipe σ own) H4 → H4 D = some (.lst acc') → RVs G.K H4 (OE E2 (wipeN n4 own) (wipe σ own)) acc' (accD ++ a) → turns F (w.1.drop (i + 1)) n4 = .ok b n3 →
          ∃ nc acc accD rest, LcAt G.K own F w.1 all n3 n2 σ H1 E2 D (i + 1) H4 nc acc accD rest := fun {n4 H4 acc'} r4 s4 d4 v4 t4 => ⟨n4, acc', accD ++ a, b, hi, r4, s4, d4, v4, t4, by rw [List.append_assoc, ← f3]; exact L.sum⟩
      subst hF
      obtain ⟨na, t, nb, g1, g2, g3⟩ := lcF2_ok f1
      refine ⟨E2, wipeN nc own, w.1[i], na, Ry, iv.imp id fun z => z, g1, fun σ2 R3 s3 c3 => ⟨(wipe_chg c3 ho).trans wipe_wipe, E2, na, R3, ?_⟩⟩
      rw [g2]
      intro H3 R4 s4
      have e2 : wipe σ2 own = wipe σ own := (wipe_chg c3 ho).trans wipe_wipe
      have s04 : Step (wipeN n2 own) (wipe σ own) H1 nb σ2 H3 := (s0.trans s3).trans s4
      have s34 := s3.trans s4
      have D3 : H3 D = some (.lst acc) := s34.fr D _ (sm _ _ L.atD) (own_not Ry ED)
      have ra3 : RVs G.K H3 (OE E2 nb σ2) acc accD := (L.rvs.pres L.rel.lo (L.rel.pres sy fun a z => .inl z)).pres Ry.lo (Ry.pres s34 fun a z => .inl z)
      rcases g3 with ⟨rfl, rfl, rfl⟩ | ⟨rfl, w1, nw, nx, n6, k1', k2, k3, rfl⟩
      · rw [if_neg Bool.false_ne_true]
        have s5 := s04.wiped (own1 := own) fun _ z => z
        have r5 := R4.wiped (own := own)
        rw [e2] at s5 r5
        refine fin r5 s5 D3 (?_ : RVs G.K H3 (OE E2 (wipeN n5 own) (wipe σ own)) acc (accD ++ [])) f2
        rw [List.append_nil, ← e2]
        exact ra3.anti fun q z => z.imp id (wiped_exc q)
      · rw [if_pos rfl]
        refine ⟨E2, nb, R4, ?_⟩
        rw [k1']
        intro E3 H4 J1 wr1
        obtain ⟨I1, S1, _, I1d⟩ := wr1.src nx k2
        have R5 : Rel G.K E3 nx σ2 H4 := (lock_fl k2).rel wr1.rel
        have ED3 : E3 D := wr1.up D ED
        have D4 : H4 D = some (.lst acc) := wr1.step.fr D _ D3 (own_not R4 ED)
        have ra4 : RVs G.K H4 (OE E3 nx σ2) acc accD := (ra3.pres R4.lo (R4.pres wr1.step wr1.new)).anti fun q z => z.imp id ((lock_fl k2).exc q)
        have src1 : ∀ {j : Nat} {Hc : Hp} {nd : En} {acc : List V} {accD rest : List PyData}, LcIn G.K own1 (lcF cf own1 tg1 ifs1 elt) w1.1 (accD ++ a) n6 nx σ2 H4 E3 D j Hc nd acc accD rest → True := fun _ => trivial
        have srcJ : ∀ {Hc : Hp} {nd : En}, Step (wipeN nx own1) (wipe σ2 own1) (dropA H4 D) (wipeN nd own1) (wipe σ2 own1) Hc → I1 E3 (wipeN nd own1) (wipe σ2 own1) Hc := fun {Hc nd} st =>
          S1.stable (I1d D ED) (R5.drop ED3) (St0.wiped.trans st.st0) fun q z => by
            by_cases hq : q = D
            · exact .inr (by rw [hq]; exact dropA_self)
            · exact .inl ⟨z, hq⟩
        refine ⟨fun j m Hc => m = w1.1.length - j ∧ ∃ nd acc acd rest, LcIn G.K own1 (lcF cf own1 tg1 ifs1 elt) w1.1 (accD ++ a) n6 nx σ2 H4 E3 D j Hc nd acc acd rest, ⟨w1.1.length, by simp, nx, acc, accD, a, ?_⟩, fun j m Hc ⟨em1, nd, ac, acd, rs, M⟩ => ?_⟩
        · exact ⟨Nat.zero_le _, R5.wiped, Step.refl.drop, D4, ra4.anti fun q z => z.imp id (wiped_exc q), by rw [List.drop_zero]; exact k3, rfl⟩
        · by_cases hj : j < w1.1.length
          · refine .inr ?_
            have left1 := M.left
            rw [drop_cons hj] at left1
            obtain ⟨a1, n7, b1, y1, y2, y3⟩ := turns_cons left1
            have hx1 : w1.1[j]? = some w1.1[j] := List.getElem?_eq_getElem hj
            obtain ⟨hgo1, hy1⟩ := S1.go (srcJ M.step) M.rel hx1
            refine ⟨hgo1, fun H' => ∃ nd acc acd rest, LcIn G.K own1 (lcF cf own1 tg1 ifs1 elt) w1.1 (accD ++ a) n6 nx σ2 H4 E3 D (j + 1) H' nd acc acd rest, fun H' z => ⟨w1.1.length - (j + 1), by omega, rfl, z⟩, fun xv1 H5 yl1 => ?_⟩
            obtain ⟨sm1, iv1⟩ := hy1 xv1 H5 yl1
            have sy1 : Step (wipeN nd own1) (wipe σ2 own1) Hc (wipeN nd own1) (wipe σ2 own1) H5 := Step.same sm1
            have Ry1 : Rel G.K E3 (wipeN nd own1) (wipe σ2 own1) H5 := M.rel.grow sm1 (fun a z => .inl z) fun a z hn => by
              obtain ⟨xs, e, mut0⟩ := M.rel.ext a z
              rw [e] at hn
              cases hn
            refine turn_el (Nx := fun H' => ∃ nd acc acd rest, LcIn G.K own1 (lcF cf own1 tg1 ifs1 elt) w1.1 (accD ++ a) n6 nx σ2 H4 E3 D (j + 1) H' nd acc acd rest) (x := w1.1[j]) wipe_wipe ho1 Ry1 ED3 (sm1 _ _ M.atD) (M.rvs.pres M.rel.lo (M.rel.pres sy1 fun a z => .inl z)) ?_ (iv1.imp id fun z => z) (lcF_ok y1) fun σ7 H7 ac' R7 e7 D7 ra7 st7 => ?_
            · have e1 := M.rvs.length
              have e2 := M.sum
              have e4 := L.rvs.length
              rw [y3] at e2
              have e3 := congrArg List.length e2
              simp only [List.length_append] at e3
              omega
            · have s7 : Step (wipeN nx own1) (wipe σ2 own1) (dropA H4 D) (wipeN n7 own1) (wipe σ2 own1) H7 := by
                have := (st7 _ _ _ dropA_self (M.step.trans sy1)).wiped (own1 := own1) fun _ z => z
                rw [e7] at this
                exact this
              have r7 : Rel G.K E3 (wipeN n7 own1) (wipe σ2 own1) H7 := by
                have := R7.wiped (own := own1)
                rw [e7] at this
                exact this
              refine ⟨n7, ac', acd ++ a1, b1, hj, r7, s7, D7, ra7.anti fun q z => ?_, y2, by rw [List.append_assoc, ← y3]; exact M.sum⟩
              rw [← e7] at z
              exact z.imp id (wiped_exc q)
          · refine .inl ⟨S1.stop (srcJ M.step) (by omega), ?_⟩
            have ej : j = w1.1.length := by have := M.le; omega
            have left1 := M.left
            rw [ej, List.drop_length] at left1
            have left2 : Res.ok [] nd = Res.ok rs n6 := left1
            have er : rs = [] ∧ nd = n6 := by cases left2; exact ⟨rfl, rfl⟩
            have ea : acd = accD ++ a := by have := M.sum; rwa [er.1, List.append_nil] at this
            have bk : Step (wipeN nw own1) (wipe σ2 own1) (dropA H4 D) (wipeN (unlock nw w1.2 nd) own1) (wipe σ2 own1) Hc := (Brk.of k2).wiped.step M.step
            have sw : Step (wipeN n2 own) (wipe σ own) H1 (wipeN nw own1) (wipe σ2 own1) H4 := (s04.trans wr1.step).wiped hs
            have s8 : Step (wipeN n2 own) (wipe σ own) H1 (wipeN (unlock nw w1.2 nd) own1) (wipe σ2 own1) Hc := sw.trans_drop bk hD (by rw [M.atD]; exact fun z => by cases z)
            have s9 := s8.wiped (own1 := own) fun _ z => z
            have fl : Fl (wipeN nd own1) (wipeN (unlock nw w1.2 nd) own1) := (unlock_fl (n := nw) (src := w1.2) (n' := nd)).wiped
            have r9 := (fl.rel M.rel).wiped (own := own)
            rw [wipeN_wipeN hs, wipe_sub hs, e2] at s9 r9
            rw [er.2] at s9 r9 fl
            refine fin (r9.weak wr1.up) s9 M.atD (?_ : RVs G.K Hc (OE E2 (wipeN (unlock nw w1.2 n6) own) (wipe σ own)) ac (accD ++ a)) f2
            rw [← ea]
            refine M.rvs.anti fun q z => ?_
            rcases z with z | z
            · exact .inl (wr1.up q z)
            · rw [← wipeN_wipeN hs, ← e2, ← wipe_sub (σ := σ2) hs] at z
              have := fl.exc q (wiped_exc q z)
              rw [er.2]
              exact .inr this
    · refine .inl ⟨S.stop (src L) (by omega), ?_⟩
      have ei : i = w.1.length := by have := L.le; omega
      have left := L.left
      rw [ei, List.drop_length] at left
      have left' : Res.ok [] nc = Res.ok rest n3 := left
      have er : rest = [] ∧ nc = n3 := by cases left'; exact ⟨rfl, rfl⟩
      obtain ⟨rb, sb, an⟩ := block_end R2 hf L.rel L.step hE2
      rw [← er.2] at hQ
      have ru : Rel G.K E2 (unlock n1 w.2 (backN n2 nc own)) σ Hc := unlock_rel rb
      have su := wr.step.trans (lock_step hl sb)
      have ea : accD = all := by have := L.sum; rwa [er.1, List.append_nil] at this
      have up : ∀ a, orP E (tmp (.f (.list all)) (V.ref D)) a → E2 a := fun a z => by
        rw [← hE]
        exact z.imp (wr.up a) fun z => by cases z; rfl
      refine hQ (.ref D) Hc ⟨ru.weak up, ⟨D, rfl, _, acc, all, .lst, L.atD, ?_⟩, su, fun a z => ?_⟩
      · rw [← ea]
        exact L.rvs.anti fun q z => an q (z.imp (fun z => by rw [ea] at z; exact up q z) (unlock_fl.exc q))
      · cases z
        cases e : H D with
        | none => rfl
        | some o => exact absurd hD (wr.step.tr D (by rw [e]; exact fun h => by cases h))
end
end DM
set_option Elab.async false
set_option linter.all false
set_option maxRecDepth 100000
/-! DM14: statements. -/
namespace DM
open PySem PySem.Spec PyProof.Rows L2

/-! ### readings of statements -/
theorem WXR.later' {G : GX} {W : WX} {E E1 : Addr → Prop} {n n1 n' : En} {σ σ1 σ' : L2.St} {H H1 : Hp} {c : Nat} {pl : PyData} (h : WXR G W E n σ H c pl n' σ') (s : Step n σ H n1 σ1 H1) (hE : ∀ a, E a → E1 a) : WXR G W E1 n1 σ1 H1 c pl n' σ' := fun H' dx fs vp r st h1 h2 h3 h4 =>
  h H' dx fs vp (r.weak hE) (s.trans st) h1 h2 (h3.anti fun a z => z.imp (hE a) id) h4
def PostS (G : GX) (W : WX) (E : Addr → Prop) (n : En) (σ : L2.St) (H : Hp) {α : Type} (P : α → En → Prop) : Res α → Prop
  | .ok a n' => P a n'
  | .err c pl n' => ∀ σ', WXR G W E n σ H c pl n' σ'
  | .bad => False
structure SR (K : PySem.W.Frag) (E : Addr → Prop) (n : En) (σ : L2.St) (H : Hp) (o : Opd) (n' : En) (v : V) (σ' : L2.St) (H' : Hp) : Prop where
  rel : Rel K (orP E (tmp o v)) n' σ' H'
  op : Od K H' (OE (orP E (tmp o v)) n' σ') σ' o v
  step : Step n σ H n' σ' H'
  new : ∀ a, tmp o v a → H a = none
/-- where a statement ends -/
def EndF (G : GX) (E : Addr → Prop) (n : En) (σ : L2.St) (H : Hp) (D : Ends) : Flow → En → Prop
  | .next, n' => ∀ σ' H', Rel G.K E n' σ' H' → Step n σ H n' σ' H' → D.nx σ' H'
  | .brk, n' => ∀ σ' H', Rel G.K E n' σ' H' → Step n σ H n' σ' H' → D.bk σ' H'
  | .cont, n' => ∀ σ' H', Rel G.K E n' σ' H' → Step n σ H n' σ' H' → D.ct σ' H'
  | .ret o, n' => ∀ v σ' H', SR G.K E n σ H o n' v σ' H' → D.rt v H'
def tS (G : GX) (W : WX) (m : M Flow) : TS := fun D σ H => ∃ E n, Rel G.K E n σ H ∧ PostS G W E n σ H (EndF G E n σ H D) (m n)
theorem _root_.L2.PS.le {X : Cx} {st : Stmt} {t t' : TS} (h : PS X st t) (q : ∀ D σ H, t' D σ H → t D σ H) : PS X st t' := ⟨fun pins s σ H D I w => h.run pins s σ H D I (q D σ H w)⟩
theorem _root_.L2.PSs.le {X : Cx} {st : List Stmt} {t t' : TS} (h : PSs X st t) (q : ∀ D σ H, t' D σ H → t D σ H) : PSs X st t' := ⟨fun pins s σ H D I w => h.run pins s σ H D I (q D σ H w)⟩
section
variable {G : GX} {W : WX} {E E1 : Addr → Prop} {n n1 n2 n' : En} {σ σ1 σ' : L2.St} {H H1 H' : Hp} {α β : Type} {D : Ends}
theorem postS_bnd {P : β → En → Prop} {m : M α} {f : α → M β} : PostS G W E n σ H P (bnd m f n1) ↔ PostS G W E n σ H (fun a n2 => PostS G W E n σ H P (f a n2)) (m n1) := by
  unfold bnd
  cases m n1 <;> rfl
theorem PostS.imp {P P' : α → En → Prop} {r : Res α} (h : PostS G W E n σ H P r) (hp : ∀ a n', r = .ok a n' → P a n' → P' a n') (s : Step n σ H n1 σ1 H1) (hE : ∀ a, E a → E1 a) : PostS G W E1 n1 σ1 H1 P' r := by
  cases r with
  | ok a n' => exact hp a n' rfl h
  | err c pl n' => exact fun σ' => (h σ').later' s hE
  | bad => exact h
theorem PostS.mono {P P' : α → En → Prop} {r : Res α} (h : PostS G W E n σ H P r) (hp : ∀ a n', r = .ok a n' → P a n' → P' a n') : PostS G W E n σ H P' r := by
  cases r with
  | ok a n' => exact hp a n' rfl h
  | err c pl n' => exact h
  | bad => exact h
/-- an expression's run within a statement -/
theorem PostS.toE {P : α → En → Prop} {r : Res α} (h : PostS G W E n σ H P r) (s : Step n σ H n1 σ1 H1) (hE : ∀ a, E a → E1 a) : Post G W E1 n1 σ1 H1 P r := by
  cases r with
  | ok a n' => exact h
  | err c pl n' => exact (h σ1).later' s hE
  | bad => exact h
theorem PostS.ok {P : α → En → Prop} {m : M α} (h : PostS G W E n σ H P (m n1)) (hn : ∀ c pl n', m n1 ≠ .err c pl n') : ∃ a n', m n1 = .ok a n' ∧ P a n' := by
  cases e : m n1 with
  | ok a n' => rw [e] at h; exact ⟨a, n', rfl, h⟩
  | err c pl n' => exact absurd e (hn c pl n')
  | bad => rw [e] at h; exact h.elim
theorem postS_rd {P : α → En → Prop} {K : PySem.W.Frag} {f : PyData → M α} {E0 : Addr → Prop} {n0 : En} {σ0 : L2.St} {H0 : Hp} {o : Opd} {v : V} (R : Rel K E n σ H) (h : Od K H (OE E n σ) σ o v) (p : PostS G W E0 n0 σ0 H0 P (bnd (rd o) f n)) : ∃ d, RT K H (OE E n σ) v d ∧ rd o n = .ok d n ∧ PostS G W E0 n0 σ0 H0 P (f d n) := by
  obtain ⟨d, n', e, q⟩ := PostS.ok (postS_bnd.mp p) fun _ _ _ => rd_noerr
  obtain ⟨e2, r⟩ := rd_ok R h e
  rw [e2] at e q
  exact ⟨d, r, e, q⟩
theorem postS_opt {P : β → En → Prop} {w : Option α} {f : α → M β} {E0 : Addr → Prop} {n0 : En} {σ0 : L2.St} {H0 : Hp} (p : PostS G W E0 n0 σ0 H0 P (bnd (opt w) f n)) : ∃ a, w = some a ∧ PostS G W E0 n0 σ0 H0 P (f a n) := by
  cases w with
  | none => exact p.elim
  | some a => exact ⟨a, rfl, p⟩
theorem tS_eq {m m' : M Flow} (e : ∀ n, m n = m' n) (h : tS G W m D σ H) : tS G W m' D σ H := by
  rw [show m' = m from funext fun n => (e n).symm]
  exact h
/-- the ends of what follows, told from ahead -/
theorem EndF.later {fl : Flow} (s : Step n σ H n1 σ1 H1) (h : EndF G E n σ H D fl n') : EndF G E n1 σ1 H1 D fl n' := by
  cases fl with
  | next => exact fun σ' H' r s2 => h σ' H' r (s.trans s2)
  | brk => exact fun σ' H' r s2 => h σ' H' r (s.trans s2)
  | cont => exact fun σ' H' r s2 => h σ' H' r (s.trans s2)
  | ret o => exact fun v σ' H' r => h v σ' H' ⟨r.rel, r.op, s.trans r.step, fun a z => by
      cases e : H a with
      | none => rfl
      | some w => exact absurd (r.new a z) (s.tr a (by rw [e]; exact fun h => by cases h))⟩
end

section
variable {X : Cx} {G : GX} {W : WX} {cf : Cf} {e c it tg : Expr} {ce cc ca cb cits : Ex} {st : Stmt} {rest body orelse : List Stmt} {sa sb : Sm} {pos p' : Pos}
/-! ### sequences -/
theorem ss_nil : PSs X [] (tS G W (exec cf .nil)) := by
  refine pss_nil.le fun D σ H ⟨E, n, R, P⟩ => ?_
  exact P σ H R .refl
theorem tS_seq {a b : M Flow} {D : Ends} {σ : L2.St} {H : Hp} (h : tS G W (seqM a b) D σ H) : tSeq (tS G W a) (tS G W b) D σ H := by
  obtain ⟨E, n, R, P⟩ := h
  refine ⟨E, n, R, (postS_bnd.mp P).mono fun fl n1 _ P1 => ?_⟩
  cases fl with
  | next => exact fun σ' H' r s => ⟨E, n1, r, PostS.imp P1 (fun fl n2 _ q => q.later s) s fun _ z => z⟩
  | brk => exact P1
  | cont => exact P1
  | ret o => exact P1
theorem ss_cons (h1 : PS X st (tS G W (exec cf sa))) (h2 : PSs X rest (tS G W (exec cf sb))) : PSs X (st :: rest) (tS G W (exec cf (.seq sa sb))) := (pss_cons h1 h2).le fun D σ H h => tS_seq h
/-- a statement that is nothing -/
theorem ss_skip (h1 : PS X st (tS G W (exec cf .pass))) (h2 : PSs X rest (tS G W (exec cf sb))) : PSs X (st :: rest) (tS G W (exec cf sb)) := by
  refine (pss_cons h1 h2).le fun D σ H ⟨E, n, R, P⟩ => ?_
  exact ⟨E, n, R, fun σ' H' r s => ⟨E, n, r, P.imp (fun fl n2 _ q => q.later s) s fun _ z => z⟩⟩
theorem ss_pass : PS X (.Pass pos) (tS G W (exec cf .pass)) := ps_pass.le fun D σ H ⟨E, n, R, P⟩ => P σ H R .refl
theorem ss_doc {x : Str} {j : Nat} : PS X (.Expr (.Constant (.str x) j p') pos) (tS G W (exec cf .pass)) := ps_doc.le fun D σ H ⟨E, n, R, P⟩ => P σ H R .refl
theorem ss_break : PS X (.Break pos) (tS G W (exec cf .brk)) := ps_break.le fun D σ H ⟨E, n, R, P⟩ => P σ H R .refl
theorem ss_cont : PS X (.Continue pos) (tS G W (exec cf .cont)) := ps_continue.le fun D σ H ⟨E, n, R, P⟩ => P σ H R .refl
theorem ss_expr (he : SE X G W e (ev cf ce)) (hs : swapsWith e none pos.line X.env = pure false) : PS X (.Expr e pos) (tS G W (exec cf (.exp ce))) := by
  refine (ps_expr he hs).le fun D σ H ⟨E, n, R, P⟩ => ?_
  exact ⟨E, n, R, ((postS_bnd.mp P).toE .refl fun _ z => z).mono fun o n1 _ P1 v H1 er => P1 σ H1 (er.rel.weak er.up) er.step⟩
theorem ss_ret (he : SE X G W e (ev cf ce)) : PS X (.Return (some e) pos) (tS G W (exec cf (.ret ce))) := by
  refine (ps_ret he).le fun D σ H ⟨E, n, R, P⟩ => ?_
  exact ⟨E, n, R, ((postS_bnd.mp P).toE .refl fun _ z => z).mono fun o n1 _ P1 v H1 er => P1 v σ H1 ⟨er.rel, er.op, er.step, er.new⟩⟩
theorem ss_retN : PS X (.Return none pos) (tS G W (exec cf .retN)) := by
  refine ps_retN.le fun D σ H ⟨E, n, R, P⟩ => ?_
  exact P .non σ H ⟨R.weak fun a z => z.elim id False.elim, .non, .refl, fun _ z => z.elim⟩
theorem ss_if (hc : ST X G W c (bnd (ev cf cc) truM)) (ha : PSs X body (tS G W (exec cf sa))) (hb : PSs X orelse (tS G W (exec cf sb))) : PS X (.If c body orelse pos) (tS G W (exec cf (.ife cc sa sb))) := by
  refine (ps_if hc ha hb).le fun D σ H ⟨E, n, R, P⟩ => ?_
  refine ⟨E, n, R, ((postS_bnd.mp P).toE .refl fun _ z => z).mono fun t n1 _ P1 H1 r s => ?_⟩
  cases t with
  | true =>
    rw [if_pos rfl] at P1 ⊢
    exact ⟨E, n1, r, PostS.imp P1 (fun fl n2 _ q => q.later s) s fun _ z => z⟩
  | false =>
    rw [if_neg Bool.false_ne_true] at P1 ⊢
    exact ⟨E, n1, r, PostS.imp P1 (fun fl n2 _ q => q.later s) s fun _ z => z⟩
/-! ### stores -/
theorem hfree {K : PySem.W.Frag} {E E1 : Addr → Prop} {n n0 : En} {σ σ1 : L2.St} {H H0 : Hp} {o : Opd} {v : V} {n1 : En} {H1 : Hp} (R : Rel K E n σ H) (er : ER K E n σ H o n1 v H1) : ∀ a, tmp o v a → ¬ E a := fun a z ze => by
  obtain ⟨xs, e, mut0⟩ := R.ext a ze
  rw [er.new a z] at e
  cases e
theorem tS_asg {i : Nat} {D : Ends} {σ : L2.St} {H : Hp} (h : tS G W (exec cf (.asg i ce)) D σ H) : tAsg (tE G W (ev cf ce)) (gName i) D σ H := by
  obtain ⟨E, n, R, P⟩ := h
  refine ⟨E, n, R, ((postS_bnd.mp P).toE .refl fun _ z => z).mono fun o n1 _ P1 v H1 er => ?_⟩
  obtain ⟨_, n2, e2, P2⟩ := PostS.ok (postS_bnd.mp P1) fun _ _ _ => put_noerr
  obtain ⟨r, s⟩ := put_ok er (hfree (σ1 := σ) (E1 := E) (n0 := n) (H0 := H) R er) e2
  exact P2 _ _ r s
theorem ss_asg {i : Nat} {x : Str} (hN : X.N.Nodup) (hi : X.N[i]? = some x) (hx : Loc X.env.scope x) (hf : X.fn x = true ∨ X.env.scope.names.lookup x = some .local) (he : SE X G W e (ev cf ce)) (hs : swapsWith e (some (.Name x p')) pos.line X.env = pure false) : PS X (.Assign [.Name x p'] e pos) (tS G W (exec cf (.asg i ce))) :=
  (ps_set hN hi hx he hs hf).le fun D σ H h => tS_asg h
theorem ss_asgT {t : Tg} (hK : X.K = G.K) (he : SE X G W e (ev cf ce)) (hg : PG X tg (tG G.K t)) (hs : swapsWithSole [tg] e pos.line X.env = pure false) (hw : swappedStores [tg] e X.env = pure none) (h1 : (assignEach [tg] X.env).map (·.2) = [assign tg X.env]) (ht : isTu t = true) : PS X (.Assign [tg] e pos) (tS G W (exec cf (.asgT t ce))) := by
  refine (ps_asg he hg hs hw h1).le fun D σ H ⟨E, n, R, P⟩ => ?_
  refine ⟨E, n, R, ((postS_bnd.mp P).toE .refl fun _ z => z).mono fun o n1 _ P1 v H1 er => ?_⟩
  obtain ⟨d, hd, er1, P2⟩ := postS_rd er.rel er.op P1
  obtain ⟨_, n2, e2, P3⟩ := PostS.ok (postS_bnd.mp P2) fun _ _ _ => setT_noerr _ _ _
  have rv : RV G.K H1 (OE (orP E (tmp o v)) n1 σ) v d := by
    refine RT.rv_nl hd (fun ds z => ?_) (fun ds z => ?_)
    · subst z
      cases t with
      | tu ts => cases e2
      | _ => cases ht
    · subst z
      cases t with
      | tu ts => cases e2
      | _ => cases ht
  exact ⟨_, n1, d, n2, er.rel, .inl rv, e2, fun σ' r s c => P3 σ' H1 (r.weak er.up) (er.step.trans s)⟩
/-- several stores at once, from operands -/
def sets (σ : L2.St) : List Nat → List V → L2.St
  | i :: is, v :: vs => sets (σ.set i (some v)) is vs
  | _, _ => σ
theorem settle_noerr {o : Opd} {n n' : En} {c : Nat} {pl : PyData} : settle o n ≠ .err c pl n' := fun e => by
  cases o with
  | v d => cases e
  | f d => cases e
  | s i => exact (bnd_err (show bnd (keep (.s i)) (fun d => ret (Opd.v d)) n = _ from e)).elim keep_noerr fun ⟨d, n1, _, e⟩ => by cases e
theorem settles_noerr {c : Nat} {pl : PyData} : ∀ {os : List Opd} {n n' : En}, settles os n ≠ .err c pl n'
  | [], _, _, e => by cases e
  | o :: os, n, n', e => by
    rcases bnd_err (show bnd (settle o) (fun p => bnd (settles os) fun ps => ret (p :: ps)) n = _ from e) with e | ⟨d, n1, _, e⟩
    · exact settle_noerr e
    · rcases bnd_err e with e | ⟨ds, n2, _, e⟩
      · exact settles_noerr e
      · cases e
theorem putAll_noerr {c : Nat} {pl : PyData} : ∀ {is : List Nat} {os : List Opd} {n n' : En}, putAll is os n ≠ .err c pl n'
  | [], [], _, _, e => by cases e
  | [], _ :: _, _, _, e => by cases e
  | _ :: _, [], _, _, e => by cases e
  | i :: is, o :: os, n, n', e => by
    rcases bnd_err (show bnd (put i o) (fun _ => putAll is os) n = _ from e) with e | ⟨d, n1, _, e⟩
    · exact put_noerr e
    · exact putAll_noerr e
/-- no operand is a name any more -/
def NoS : List Opd → Prop
  | [] => True
  | .s _ :: _ => False
  | _ :: os => NoS os
theorem settles_ok {K : PySem.W.Frag} {σ : L2.St} {H : Hp} : ∀ {os ps : List Opd} {vs : List V} {n n' : En} {E : Addr → Prop}, Rel K (orP E (tmps os vs)) n σ H → Ods K H (OE (orP E (tmps os vs)) n σ) σ os vs → Ap os vs → (∀ a, tmps os vs a → ¬ E a) → settles os n = .ok ps n' →
    Rel K (orP E (tmps ps vs)) n' σ H ∧ Ods K H (OE (orP E (tmps ps vs)) n' σ) σ ps vs ∧ NoS ps ∧ Step n σ H n' σ H ∧ (∀ a, tmps ps vs a ↔ tmps os vs a) ∧ Ap ps vs
  | [], _, _, n, n', E, R, .nil, ap, hn, e => by
    cases e
    exact ⟨R, .nil, trivial, .refl, fun _ => .rfl, trivial⟩
  | o :: os, _, v :: vs, n, n', E, R, .cons h q, ap, hn, e => by
    obtain ⟨p, n1, e1, e⟩ := bnd_ok (show bnd (settle o) (fun p => bnd (settles os) fun ps => ret (p :: ps)) n = _ from e)
    obtain ⟨ps, n2, e2, e⟩ := bnd_ok e
    cases e
    -- the first one
    have first : Rel K (orP E (tmps (o :: os) (v :: vs))) n1 σ H ∧ Od K H (OE (orP E (tmps (o :: os) (v :: vs))) n1 σ) σ p v ∧ Step n σ H n1 σ H ∧ (∀ a, Exc n1 σ a → Exc n σ a) ∧ (∀ a, tmp p v a ↔ tmp o v a) ∧ (∀ i, p ≠ .s i) := by
      cases o with
      | v d => cases e1; exact ⟨R, h, .refl, fun _ z => z, fun _ => .rfl, fun i z => by cases z⟩
      | f d => cases e1; exact ⟨R, h, .refl, fun _ z => z, fun _ => .rfl, fun i z => by cases z⟩
      | s i =>
        obtain ⟨d, n3, e3, e4⟩ := bnd_ok (show bnd (keep (.s i)) (fun d => ret (Opd.v d)) n = _ from e1)
        cases e4
        have R' : Rel K (orP (orP E (tmps (.s i :: os) (v :: vs))) (tmp (.s i) v)) n σ H := R.weak fun a z => z.elim id False.elim
        obtain ⟨r, rv, s, x⟩ := keep_ok R' h (fun a z => z.elim) e3
        exact ⟨r, rv, s, x, fun _ => .rfl, fun i z => by cases z⟩
    obtain ⟨R1, h1, s1, x1, t1, nos⟩ := first
    have sw : ∀ a, orP (orP E (tmp o v)) (tmps os vs) a → orP E (tmps (o :: os) (v :: vs)) a := fun a z => by
      rcases z with (z | z) | z
      · exact .inl z
      · exact .inr (.inl z)
      · exact .inr (.inr z)
    have ws : ∀ a, orP E (tmps (o :: os) (v :: vs)) a → orP (orP E (tmp o v)) (tmps os vs) a := fun a z => by
      rcases z with z | z | z
      · exact .inl (.inl z)
      · exact .inl (.inr z)
      · exact .inr z
    obtain ⟨R2, q2, ns, s2, t2, ap2⟩ := settles_ok (E := orP E (tmp o v)) (R1.weak sw) (q.anti fun a z => z.imp (sw a) (x1 a)) ap.2 (fun a z ze => by
      rcases ze with ze | ze
      · exact hn a (.inr z) ze
      · exact ap.1 a ze z) e2
    have up : ∀ a, orP E (tmps (p :: ps) (v :: vs)) a → orP (orP E (tmp o v)) (tmps ps vs) a := fun a z => by
      rcases z with z | z | z
      · exact .inl (.inl z)
      · exact .inl (.inr ((t1 a).mp z))
      · exact .inr z
    have tt : ∀ a, tmps (p :: ps) (v :: vs) a ↔ tmps (o :: os) (v :: vs) a := fun a => ⟨fun z => z.imp (t1 a).mp (t2 a).mp, fun z => z.imp (t1 a).mpr (t2 a).mpr⟩
    refine ⟨R2.weak up, .cons ?_ (q2.anti fun a z => z.imp (up a) id), ?_, s1.trans s2, tt, fun a z z2 => ap.1 a ((t1 a).mp z) ((t2 a).mp z2), ap2⟩
    · have c := Od.carry h1 R1 s2 (E1 := orP E (tmps (o :: os) (v :: vs))) (fun a z => .inl z) fun a z => .inr (.inl ((t1 a).mp z))
      exact c.anti fun a z => z.imp (fun z => z.imp id (tt a).mp) id
    · cases p with
      | s i => exact absurd rfl (nos i)
      | v d => exact ns
      | f d => exact ns
theorem putAll_ok {K : PySem.W.Frag} : ∀ {is : List Nat} {os : List Opd} {vs : List V} {σ σ0 : L2.St} {n n0 n' : En} {H H0 : Hp} {E : Addr → Prop}, Rel K (orP E (tmps os vs)) n σ H → (∀ τ, Ods K H (OE (orP E (tmps os vs)) n σ) τ os vs) → NoS os → Ap os vs → (∀ a, tmps os vs a → ¬ E a) → Step n0 σ0 H0 n σ H → (∀ a, tmps os vs a → H0 a = none) → putAll is os n = .ok () n' →
    Rel K E n' (sets σ is vs) H ∧ Step n0 σ0 H0 n' (sets σ is vs) H ∧ is.length = vs.length
  | [], [], [], σ, _, n, _, n', H, _, E, R, q, _, _, _, s, _, e => by
    cases e
    exact ⟨R.weak fun a z => .inl z, s, rfl⟩
  | [], _ :: _, _, _, _, _, _, _, _, _, _, _, _, _, _, _, _, _, e => by cases e
  | _ :: _, [], _, _, _, _, _, _, _, _, _, _, _, _, _, _, _, _, e => by cases e
  | [], [], _ :: _, σ, _, _, _, _, _, _, _, _, q, _, _, _, _, _, _ => by cases q σ
  | i :: is, o :: os, [], σ, _, _, _, _, _, _, _, _, q, _, _, _, _, _, _ => by cases q σ
  | i :: is, o :: os, v :: vs, σ, σ0, n, n0, n', H, H0, E, R, q, ns, ap, hn, s, hnew, e => by
    obtain ⟨_, n1, e1, e2⟩ := bnd_ok (show bnd (put i o) (fun _ => putAll is os) n = _ from e)
    have ws : ∀ a, orP (orP E (tmps os vs)) (tmp o v) a → orP E (tmps (o :: os) (v :: vs)) a := fun a z => by
      rcases z with (z | z) | z
      · exact .inl z
      · exact .inr (.inr z)
      · exact .inr (.inl z)
    have sw : ∀ a, orP E (tmps (o :: os) (v :: vs)) a → orP (orP E (tmps os vs)) (tmp o v) a := fun a z => by
      rcases z with z | z | z
      · exact .inl (.inl z)
      · exact .inr z
      · exact .inl (.inr z)
    have step1 : Rel K (orP E (tmps os vs)) n1 (σ.set i (some v)) H ∧ Step n0 σ0 H0 n1 (σ.set i (some v)) H ∧ ∀ a, Exc n1 (σ.set i (some v)) a → tmp o v a ∨ Exc n σ a := by
      have hq : Od K H (OE (orP E (tmps (o :: os) (v :: vs))) n σ) σ o v := by
        cases q σ with
        | cons h _ => exact h
      cases o with
      | s j => exact ns.elim
      | v d =>
        obtain ⟨rfl, hi, hp⟩ := putSl_ok e1
        obtain ⟨r, st, an⟩ := (R.weak fun a z => ws a (.inl z)).putV (v := v) (i := i) (d := d) (RV.anti (fun a z => z.imp (fun z => ws a (.inl z)) id) hq) hi hp
        refine ⟨r, s.trans st, fun a z => .inr ?_⟩
        obtain ⟨j, l, p, d', z1, z2⟩ := z
        rw [set_get hi] at z1
        split at z1
        · cases z1
        · rename_i hij
          rw [set_get (by rw [← R.len]; exact hi), if_neg hij] at z2
          exact ⟨j, l, p, d', z1, z2⟩
      | f d =>
        obtain ⟨rfl, hi, hp⟩ := putSl_ok e1
        obtain ⟨a, ea, ov⟩ := hq
        have hnE : ¬ (orP E (tmps os vs)) a := fun z => by
          rcases z with z | z
          · exact hn a (.inl ea) z
          · exact ap.1 a ea z
        obtain ⟨r, st⟩ := (R.weak ws).putO (E := orP E (tmps os vs)) ea (ov.anti fun b z => z.imp (ws b) id) hnE s (hnew a (.inl ea)) hi hp
        refine ⟨r, st, fun b z => ?_⟩
        obtain ⟨j, l, p, d', z1, z2⟩ := z
        rw [set_get hi] at z1
        rw [set_get (by rw [← R.len]; exact hi)] at z2
        split at z1
        · rename_i hij
          rw [if_pos hij] at z2
          exact .inl (Option.some.inj (Option.some.inj z2))
        · rename_i hij
          rw [if_neg hij] at z2
          exact .inr ⟨j, l, p, d', z1, z2⟩
    obtain ⟨R1, s1, x1⟩ := step1
    have q1 : ∀ τ, Ods K H (OE (orP E (tmps os vs)) n1 (σ.set i (some v))) τ os vs := fun τ => by
      cases q τ with
      | cons _ h =>
        refine h.anti fun a z => ?_
        rcases z with z | z
        · exact .inl (ws a (.inl z))
        · rcases x1 a z with z | z
          · exact .inl (.inr (.inl z))
          · exact .inr z
    have ns1 : NoS os := by
      cases o with
      | s j => exact ns.elim
      | v d => exact ns
      | f d => exact ns
    obtain ⟨R2, s2, hl⟩ := putAll_ok R1 q1 ns1 ap.2 (fun a z => hn a (.inr z)) s1 (fun a z => hnew a (.inr z)) e2
    exact ⟨R2, s2, by rw [List.length_cons, List.length_cons, hl]⟩
theorem Ods.any {K : PySem.W.Frag} {H : Hp} {O : Addr → Prop} {σ τ : L2.St} : ∀ {os : List Opd} {vs : List V}, NoS os → Ods K H O σ os vs → Ods K H O τ os vs
  | _, _, _, .nil => .nil
  | .v d :: os, _, ns, .cons h q => .cons h (Ods.any ns q)
  | .f d :: os, _, ns, .cons h q => .cons h (Ods.any ns q)
  | .s i :: os, _, ns, .cons h q => ns.elim
/-- the stores of a, b = .. -/
theorem tS_par {is : List Nat} {D : Ends} {σ : L2.St} {H : Hp} (h : tS G W (exec cf (.par is ce)) D σ H) : tA G W (evs cf ce) σ H fun vs H1 => is.length = vs.length ∧ D.nx (sets σ is vs) H1 ∧ ∀ (p : Addr) (u : HO), H1 p = none → D.nx (sets σ is vs) (upd H1 p u) := by
  obtain ⟨E, n, R, P⟩ := h
  refine ⟨E, n, R, ((postS_bnd.mp P).toE .refl fun _ z => z).mono fun os n1 _ P1 vs H1 ar => ?_⟩
  obtain ⟨ps, n2, e2, P2⟩ := PostS.ok (postS_bnd.mp P1) fun _ _ _ => settles_noerr
  obtain ⟨_, n3, e3, P3⟩ := PostS.ok (postS_bnd.mp P2) fun _ _ _ => putAll_noerr
  have hf : ∀ q, tmps os vs q → ¬ E q := fun q z ze => by
    obtain ⟨xs, e, mut0⟩ := R.ext q ze
    rw [ar.new q z] at e
    cases e
  obtain ⟨R2, q2, ns, s2, tt, ap2⟩ := settles_ok ar.rel ar.ops ar.ap hf e2
  obtain ⟨R3, s3, hl⟩ := putAll_ok R2 (fun τ => Ods.any ns q2) ns ap2 (fun a z => hf a ((tt a).mp z)) (ar.step.trans s2) (fun a z => ar.new a ((tt a).mp z)) e3
  refine ⟨hl, P3 _ _ R3 s3, fun p u hp => P3 _ _ ?_ (s3.trans (Step.same (same_upd hp)))⟩
  refine R3.grow (same_upd hp) (fun a z => .inl z) fun a z hn => ?_
  obtain ⟨xs, e, mut0⟩ := R3.ext a z
  rw [e] at hn
  cases hn
end
end DM
set_option Elab.async false
set_option linter.all false
set_option maxRecDepth 100000
/-! DM15: stores into lists, loops. -/
namespace DM
open PySem PySem.Spec PyProof.Rows L2
section
variable {X : Cx} {G : GX} {W : WX} {cf : Cf} {e c it tg : Expr} {ce cc ca cb ci cj cits : Ex} {st : Stmt} {rest body orelse : List Stmt} {sa sb : Sm} {pos p' : Pos}

/-! ### a, b = x, y -/
theorem ss_par2 {i j : Nat} {x y : Str} {a b : Expr} {px py pt : Pos} {kt k2 pt2} (hc : X.calm = true) (hN : X.N.Nodup) (hi : X.N[i]? = some x) (hj : X.N[j]? = some y) (hij : i ≠ j) (hx : X.env.scope.names.lookup x = some .local) (hy : X.env.scope.names.lookup y = some .local) (ha : SA X G W [a, b] (evs cf ce))
    (hw : swappedStores [.Tuple [.Name x px, .Name y py] kt pt] (.Tuple [a, b] k2 pt2) X.env = pure (some [x, y])) (hs : swapsWithSole [.Tuple [.Name x px, .Name y py] kt pt] (.Tuple [a, b] k2 pt2) pos.line X.env = pure false) :
    PS X (.Assign [.Tuple [.Name x px, .Name y py] kt pt] (.Tuple [a, b] k2 pt2) pos) (tS G W (exec cf (.par [i, j] ce))) := by
  refine (ps_par hc hN hi hj hij hx hy ha hw hs).le fun D σ H h => ?_
  obtain ⟨E, n, R, P⟩ := tS_par h
  refine ⟨E, n, R, P.mono fun os n1 _ P1 vs H1 ar => ?_⟩
  obtain ⟨hl, q, _⟩ := P1 vs H1 ar
  match vs, hl, q with
  | [v, w], _, q => exact ⟨v, w, rfl, q⟩
theorem ss_par3 {i j l : Nat} {x y z : Str} {a b c : Expr} {px py pz pt : Pos} {kt k2 pt2} (hc : X.calm = true) (hN : X.N.Nodup) (hi : X.N[i]? = some x) (hj : X.N[j]? = some y) (hl : X.N[l]? = some z) (hij : i ≠ j) (hil : i ≠ l) (hjl : j ≠ l)
    (hx : X.env.scope.names.lookup x = some .local) (hy : X.env.scope.names.lookup y = some .local) (hz : X.env.scope.names.lookup z = some .local) (ha : SA X G W [a, b, c] (evs cf ce))
    (hw : swappedStores [.Tuple [.Name x px, .Name y py, .Name z pz] kt pt] (.Tuple [a, b, c] k2 pt2) X.env = pure (some [x, y, z])) (hs : swapsWithSole [.Tuple [.Name x px, .Name y py, .Name z pz] kt pt] (.Tuple [a, b, c] k2 pt2) pos.line X.env = pure false) :
    PS X (.Assign [.Tuple [.Name x px, .Name y py, .Name z pz] kt pt] (.Tuple [a, b, c] k2 pt2) pos) (tS G W (exec cf (.par [i, j, l] ce))) := by
  refine (ps_par3 hc hN hi hj hl hij hil hjl hx hy hz ha hw hs).le fun D σ H h => ?_
  obtain ⟨E, n, R, P⟩ := tS_par h
  refine ⟨E, n, R, P.mono fun os n1 _ P1 vs H1 ar => ?_⟩
  obtain ⟨hl, q, _⟩ := P1 vs H1 ar
  match vs, hl, q with
  | [u, v, w], _, q => exact ⟨u, v, w, rfl, q⟩
/-- several names, one after the other -/
def gsN (is : List Nat) : TGs := fun vs σ H Q => is.length = vs.length ∧ Q (sets σ is vs) H
theorem gsN_nil : PGs X [] (gsN []) := pgs_nil.le fun vs σ H Q ⟨h, q⟩ => by
  cases vs with
  | nil => exact ⟨rfl, q⟩
  | cons _ _ => cases h
theorem gsN_cons {i : Nat} {x : Str} {is : List Nat} {es : List Expr} (hN : X.N.Nodup) (hi : X.N[i]? = some x) (hx : Loc X.env.scope x) (hf : X.fn x = true ∨ X.env.scope.names.lookup x = some .local) (h : PGs X es (gsN is)) (hs : (assignEach (.Name x p' :: es) X.env).map (·.2) = assign (.Name x p') X.env :: (assignEach es X.env).map (·.2)) : PGs X (.Name x p' :: es) (gsN (i :: is)) :=
  (pgs_cons (pg_name hN hi hx hf) h hs).le fun vs σ H Q ⟨hl, q⟩ => by
    cases vs with
    | nil => cases hl
    | cons v vs => exact ⟨v, vs, rfl, by simpa using hl, q⟩
theorem ss_parT {is : List Nat} {ts es : List Expr} {kt k2 : Nat} {pt pt2 : Pos} (hc : X.calm = true) (ha : SA X G W es (evs cf ce)) (hg : PGs X ts (gsN is)) (hl : is.length ≤ 9) (hn : (assignEach ts X.env).length = is.length) (hst : (assignEach ts X.env).findIdx? (·.1) = none)
    (hs : swapsWithSole [.Tuple ts kt pt] (.Tuple es k2 pt2) pos.line X.env = pure false) (hw : swappedStores [.Tuple ts kt pt] (.Tuple es k2 pt2) X.env = pure none) (h1 : (assignEach [.Tuple ts kt pt] X.env).map (·.2) = [assign (.Tuple ts kt pt) X.env]) :
    PS X (.Assign [.Tuple ts kt pt] (.Tuple es k2 pt2) pos) (tS G W (exec cf (.par is ce))) := by
  refine (ps_asg (pe_tup ha) (pg_tup hc hg hn hst) hs hw h1).le fun D σ H h => ?_
  obtain ⟨E, n, R, P⟩ := tS_par h
  refine ⟨E, n, R, P.mono fun os n1 _ P1 vs H1 ar => ?_⟩
  obtain ⟨hvl, _, q⟩ := P1 vs H1 ar
  refine ⟨by rw [sizeLine_eq]; omega, fun p hp => ⟨p, vs, rfl, .inl (.inl upd_same), hvl.symm, hvl, q p _ hp⟩⟩

/-! ### stores into lists -/
theorem change_get {x o' : Opd} {f : List PyData → Option (PyData × List PyData)} {n1 n' : En} (e : change x f n1 = .ok o' n') : ∃ i pr ds r ys, x = .s i ∧ n1[i]? = some (.own false pr (.list ds)) ∧ f ds = some (r, ys) ∧ o' = .v r ∧ n' = n1.set i (.own false pr (.list ys)) := by
  cases x with
  | v d => cases e
  | f d => cases e
  | s i =>
    simp only [change] at e
    split at e
    · rename_i pr ds h
      split at e
      · rename_i r ys hf
        cases e
        exact ⟨i, pr, ds, r, ys, rfl, h, hf, rfl, rfl⟩
      · cases e
    · cases e
theorem change_noerr {x : Opd} {f : List PyData → Option (PyData × List PyData)} {n1 n' : En} {cc : Nat} {pl : PyData} : change x f n1 ≠ .err cc pl n' := fun e => by
  cases x with
  | v d => cases e
  | f d => cases e
  | s i =>
    simp only [change] at e
    split at e
    · split at e <;> cases e
    · cases e
theorem setL_noerr {x : Opd} {k : Int} {d : PyData} {n1 n' : En} {cc : Nat} {pl : PyData} : setL x k d n1 ≠ .err cc pl n' := fun e => by
  unfold setL at e
  rcases bnd_err e with e | ⟨_, n2, _, e⟩
  · exact change_noerr e
  · cases e
theorem setD_noerr {x : Opd} {k : Int} {d : PyData} {n1 n' : En} {cc : Nat} {pl : PyData} : setD x k d n1 ≠ .err cc pl n' := fun e => by
  cases x with
  | v d => cases e
  | f d => cases e
  | s i =>
    simp only [setD] at e
    split at e
    · split at e <;> cases e
    · cases e
theorem setAtL_noerr {x : Opd} {k d : PyData} {n1 n' : En} {cc : Nat} {pl : PyData} : setAtL x k d n1 ≠ .err cc pl n' := fun e => by
  unfold setAtL at e
  split at e
  · exact setL_noerr e
  · cases e
theorem setAt_noerr {x : Opd} {k d : PyData} {n1 n' : En} {cc : Nat} {pl : PyData} : setAt x k d n1 ≠ .err cc pl n' := fun e => by
  unfold setAt at e
  split at e
  · split at e
    · exact setD_noerr e
    · exact setL_noerr e
  · cases e
theorem setL_ok {K : PySem.W.Frag} {E : Addr → Prop} {n n' : En} {σ : L2.St} {H : Hp} {x : Opd} {v u : V} {i : Int} {d : PyData} (R : Rel K E n σ H) (ox : Od K H (OE E n σ) σ x v) (hu : RV K H (OE E n σ) u d) (e : setL x i d n = .ok () n') :
    ∃ p xs j, v = .ref p ∧ H p = some (.lst xs) ∧ ixN xs.length i = some j ∧ Rel K E n' σ (upd H p (.lst (xs.set j u))) ∧ Step n σ H n' σ (upd H p (.lst (xs.set j u))) := by
  unfold setL at e
  obtain ⟨o', n2, e1, e2⟩ := bnd_ok e
  cases e2
  obtain ⟨s, pr, ds, r, ys, rfl, h, hf, _, rfl⟩ := change_get e1
  split at hf
  · rename_i j hj
    cases hf
    obtain ⟨p, h1, ⟨u0, xs, ds', e3, h5, h6⟩, h3⟩ := R.own s false pr _ h
    cases e3
    have ox' : σ[s]? = some (some v) := ox
    rw [h1] at ox'
    cases ox'
    obtain ⟨r2, s2, p2⟩ := R.changed h h1 h5 (h6.set hu j)
    exact ⟨p, xs, j, rfl, h5, by rw [h6.length]; exact hj, r2, s2⟩
  · cases hf
theorem setD_ok {K : PySem.W.Frag} {E : Addr → Prop} {n n' : En} {σ : L2.St} {H : Hp} {x : Opd} {v u : V} {i : Int} {d : PyData} (R : Rel K E n σ H) (ox : Od K H (OE E n σ) σ x v) (hu : RV K H (OE E n σ) u d) (e : setD x i d n = .ok () n') :
    ∃ p kvs, v = .ref p ∧ H p = some (.dK kvs) ∧ kvs.length < sizeLine ∧ Rel K E n' σ (upd H p (.dK (putK kvs (Sum.inl i) u))) ∧ Step n σ H n' σ (upd H p (.dK (putK kvs (Sum.inl i) u))) := by
  cases x with
  | v d => cases e
  | f d => cases e
  | s t =>
    simp only [setD] at e
    split at e
    · rename_i pr kvs h
      split at e
      · rename_i hc
        cases e
        obtain ⟨p, h1, ⟨u0, xs, ds, e3, h5, h6⟩, h3⟩ := R.own t false pr _ h
        have ox' : σ[t]? = some (some v) := ox
        rw [h1] at ox'
        cases ox'
        generalize hd : PyData.dict kvs = dd at e3 h
        cases e3 with
        | lst => cases hd
        | @dct ks _ _ hl =>
          have hd : kvs = DZ ks ds := by cases hd; rfl
          subst hd
          obtain ⟨ks', xs', ds', k1, k2, k3, k4⟩ := dz_put i hu h6 hl
          obtain ⟨r2, s2, _⟩ := R.changedC h h1 (Cel.dct k3) k4
          rw [k2]
          refine ⟨p, KZ ks xs, rfl, h5, by rw [(dz_len h6 hl).2, ← (dz_len h6 hl).1]; exact hc.2, ?_, ?_⟩
          · rw [k1]; exact r2
          · rw [k1]; exact s2
      · cases e
    · cases e
/-- x[k] = v, of a list, of a dict -/
def rSetA : V → V → V → Hp → (Hp → Prop) → Prop := fun o i v H Q => rSetL o i v H Q ∨ ∃ p kvs k, o = .ref p ∧ i = .int k ∧ H p = some (.dK kvs) ∧ kvs.length < sizeLine ∧ Q (upd H p (.dK (putK kvs (Sum.inl k) v)))
theorem set_any (hu : X.A.units + 64 < cLine) : PSet X rSetA := by
  intro pins s σ H o i v ov iv u Q I ro ri rv h
  rcases h with h | ⟨p, kvs, k, rfl, rfl, h1, h2, q⟩
  · exact set_list pins s σ H o i v ov iv u Q I ro ri rv h
  · cases ro
    exact d_setItem (by omega) I (DPut.k (k := Sum.inl k) h1 h2) ri rv fun s' I' => ⟨_, I', q⟩
theorem set_ok {K : PySem.W.Frag} {E : Addr → Prop} {n n' : En} {σ : L2.St} {H : Hp} {x : Opd} {v u w : V} {k d : PyData} {Q : Hp → Prop} (R : Rel K E n σ H) (ox : Od K H (OE E n σ) σ x v) (hu : RV K H (OE E n σ) u d) (hk : RT K H (OE E n σ) w k) (e : setAt x k d n = .ok () n')
    (q : ∀ H', Rel K E n' σ H' → Step n σ H n' σ H' → Q H') : rSetA v w u H Q := by
  unfold setAt at e
  split at e
  · rename_i i
    cases hk.int
    split at e
    · obtain ⟨p, kvs, rfl, h1, h2, r, s⟩ := setD_ok R ox hu e
      exact .inr ⟨p, kvs, i, rfl, rfl, h1, h2, q _ r s⟩
    · obtain ⟨p, xs, j, rfl, h1, h2, r, s⟩ := setL_ok R ox hu e
      exact .inl ⟨p, xs, i, j, rfl, rfl, h1, h2, q _ r s⟩
  · cases e
/-- ev a, ev i, the store of a value that is kept -/
theorem store_run {E : Addr → Prop} {n n1 : En} {σ : L2.St} {H H1 : Hp} {u : V} {d : PyData} {k : M Flow} {P : Flow → En → Prop} {Q : Hp → Prop} (R : Rel G.K E n1 σ H1) (st : Step n σ H n1 σ H1) (hu : RV G.K H1 (OE E n1 σ) u d)
    (p : PostS G W E n σ H P (bnd (ev cf ca) (fun x => bnd (ev cf ci) fun y => bnd (rd y) fun k' => bnd (setAt x k' d) fun _ => k) n1))
    (hk : ∀ n2 H2, Rel G.K E n2 σ H2 → Step n1 σ H1 n2 σ H2 → PostS G W E n σ H P (k n2) → Q H2) :
    tE G W (ev cf ca) σ H1 fun o H2 => tE G W (ev cf ci) σ H2 fun i H3 => rSetA o i u H3 Q := by
  refine ⟨E, n1, R, ((postS_bnd.mp p).toE st fun _ z => z).mono fun x n2 _ P1 xv H2 er => ?_⟩
  refine ⟨_, n2, er.rel, ((postS_bnd.mp P1).toE (st.trans er.step) er.up).mono fun y n3 _ P2 yv H3 er2 => ?_⟩
  have ox := er.first er2
  have hu3 : RV G.K H3 (OE (orP (orP E (tmp x xv)) (tmp y yv)) n3 σ) u d := RV.pres er.rel.lo (er.rel.pres er2.step fun a z => z.imp id (er2.new a)) (RV.pres R.lo (R.pres er.step fun a z => z.imp id (er.new a)) hu)
  obtain ⟨kd, hkd, _, P3⟩ := postS_rd er2.rel er2.op P2
  obtain ⟨_, n4, e4, P4⟩ := PostS.ok (postS_bnd.mp P3) fun _ _ _ => setAt_noerr
  exact set_ok er2.rel ox hu3 hkd e4 fun H' r s => hk n4 _ (r.weak fun a z => .inl (.inl z)) ((er.step.trans er2.step).trans s) P4
theorem ss_setI {a i : Expr} (hu : X.A.units + 64 < cLine) (he : SE X G W e (ev cf ce)) (ha : SE X G W a (ev cf ca)) (hi : SE X G W i (ev cf ci)) (hs : swapsWithSole [.Subscript a i p'] e pos.line X.env = pure false) (hw : swappedStores [.Subscript a i p'] e X.env = pure none) (h1 : (assignEach [.Subscript a i p'] X.env).map (·.2) = [assign (.Subscript a i p') X.env])
    (hg : ∀ v, assign (.Subscript a i p') X.env v = (do
      let ov ← holding [v] (eval a X.env)
      let iv ← holding [v, ov] (eval i X.env)
      standAt p'
      holding [v, ov, iv] (setItem ov iv v)
      release [v, ov, iv] [])) : PS X (.Assign [.Subscript a i p'] e pos) (tS G W (exec cf (.setI ca ci ce))) := by
  refine (ps_asg he (pg_sub ha hi (set_any hu) hg) hs hw h1).le fun D σ H ⟨E, n, R, P⟩ => ?_
  refine ⟨E, n, R, ((postS_bnd.mp P).toE .refl fun _ z => z).mono fun v n1 _ P1 u H1 er => ?_⟩
  obtain ⟨d, n2, e2, P2⟩ := PostS.ok (postS_bnd.mp P1) fun _ _ _ => keep_noerr
  obtain ⟨r, rv, s, _⟩ := keep_ok er.rel er.op (hfree (σ1 := σ) (E1 := E) (n0 := n) (H0 := H) R er) e2
  exact store_run r (er.step.trans s) rv P2 fun n3 H3 r3 s3 P3 => P3 σ H3 r3 ((er.step.trans s).trans s3)
theorem ss_setII {a i b j : Expr} {p2 : Pos} (hu : X.A.units + 64 < cLine) (he : SE X G W e (ev cf ce)) (ha : SE X G W a (ev cf ca)) (hi : SE X G W i (ev cf ci)) (hb : SE X G W b (ev cf cb)) (hj : SE X G W j (ev cf cj)) (hw : swappedStores [.Subscript a i p', .Subscript b j p2] e X.env = pure none) (h1 : (assignEach [.Subscript a i p', .Subscript b j p2] X.env).map (·.2) = [assign (.Subscript a i p') X.env, assign (.Subscript b j p2) X.env])
    (hg : ∀ v, assign (.Subscript a i p') X.env v = (do
      let ov ← holding [v] (eval a X.env)
      let iv ← holding [v, ov] (eval i X.env)
      standAt p'
      holding [v, ov, iv] (setItem ov iv v)
      release [v, ov, iv] []))
    (hg2 : ∀ v, assign (.Subscript b j p2) X.env v = (do
      let ov ← holding [v] (eval b X.env)
      let iv ← holding [v, ov] (eval j X.env)
      standAt p2
      holding [v, ov, iv] (setItem ov iv v)
      release [v, ov, iv] [])) : PS X (.Assign [.Subscript a i p', .Subscript b j p2] e pos) (tS G W (exec cf (.setII ca ci cb cj ce))) := by
  refine (ps_asg2 he (pg_sub ha hi (set_any hu) hg) (pg_sub hb hj (set_any hu) hg2) h1 hw).le fun D σ H ⟨E, n, R, P⟩ => ?_
  refine ⟨E, n, R, ((postS_bnd.mp P).toE .refl fun _ z => z).mono fun v n1 _ P1 u H1 er => ?_⟩
  obtain ⟨d, n2, e2, P2⟩ := PostS.ok (postS_bnd.mp P1) fun _ _ _ => keep_noerr
  obtain ⟨r, rv, s, _⟩ := keep_ok er.rel er.op (hfree (σ1 := σ) (E1 := E) (n0 := n) (H0 := H) R er) e2
  have s1 := er.step.trans s
  refine store_run r s1 rv P2 fun n3 H3 r3 s3 P3 => ?_
  exact store_run r3 (s1.trans s3) (RV.pres r.lo (r.pres s3 fun a z => .inl z) rv) P3 fun n4 H4 r4 s4 P4 => P4 σ H4 r4 ((s1.trans s3).trans s4)
theorem ss_swp {a i b j e1 e2 : Expr} {kt k2 : Nat} {p1 p2 pt pt2 : Pos} (hc : X.calm = true) (hu : X.A.units + 64 < cLine) (he : SA X G W [e1, e2] (evs cf ce)) (ha : SE X G W a (ev cf ca)) (hi : SE X G W i (ev cf ci)) (hb : SE X G W b (ev cf cb)) (hj : SE X G W j (ev cf cj))
    (hs : swapsWithSole [.Tuple [.Subscript a i p1, .Subscript b j p2] kt pt] (.Tuple [e1, e2] k2 pt2) pos.line X.env = pure false) (hw : swappedStores [.Tuple [.Subscript a i p1, .Subscript b j p2] kt pt] (.Tuple [e1, e2] k2 pt2) X.env = pure none) (h1 : (assignEach [.Tuple [.Subscript a i p1, .Subscript b j p2] kt pt] X.env).map (·.2) = [assign (.Tuple [.Subscript a i p1, .Subscript b j p2] kt pt) X.env])
    (hn : (assignEach [.Subscript a i p1, .Subscript b j p2] X.env).length = 2) (hst : (assignEach [.Subscript a i p1, .Subscript b j p2] X.env).findIdx? (·.1) = none)
    (h2 : (assignEach [.Subscript a i p1, .Subscript b j p2] X.env).map (·.2) = assign (.Subscript a i p1) X.env :: (assignEach [.Subscript b j p2] X.env).map (·.2)) (h3 : (assignEach [.Subscript b j p2] X.env).map (·.2) = assign (.Subscript b j p2) X.env :: (assignEach [] X.env).map (·.2))
    (hg : ∀ v, assign (.Subscript a i p1) X.env v = (do
      let ov ← holding [v] (eval a X.env)
      let iv ← holding [v, ov] (eval i X.env)
      standAt p1
      holding [v, ov, iv] (setItem ov iv v)
      release [v, ov, iv] []))
    (hg2 : ∀ v, assign (.Subscript b j p2) X.env v = (do
      let ov ← holding [v] (eval b X.env)
      let iv ← holding [v, ov] (eval j X.env)
      standAt p2
      holding [v, ov, iv] (setItem ov iv v)
      release [v, ov, iv] [])) :
    PS X (.Assign [.Tuple [.Subscript a i p1, .Subscript b j p2] kt pt] (.Tuple [e1, e2] k2 pt2) pos) (tS G W (exec cf (.swp ca ci cb cj ce))) := by
  refine (ps_asg (pe_tup he) (pg_tup hc (pgs_cons (pg_sub ha hi (set_any hu) hg) (pgs_cons (pg_sub hb hj (set_any hu) hg2) pgs_nil h3) h2) hn hst) hs hw h1).le fun D σ H ⟨E, n, R, P⟩ => ?_
  refine ⟨E, n, R, ((postS_bnd.mp P).toE .refl fun _ z => z).mono fun os n1 _ P1 vs H1 ar => ?_⟩
  obtain ⟨ds, n2, e2', P2⟩ := PostS.ok (postS_bnd.mp P1) fun _ _ _ => keeps_noerr
  have hf : ∀ q, tmps os vs q → ¬ E q := fun q z ze => by
    obtain ⟨xs, e, mut0⟩ := R.ext q ze
    rw [ar.new q z] at e
    cases e
  obtain ⟨r, rvs, s, _⟩ := keeps_ok ar.rel ar.ops ar.ap hf e2'
  split at P2
  · rename_i d g
    match vs, rvs with
    | [u, w], .cons h3 (.cons h4 .nil) =>
      refine ⟨by rw [sizeLine_eq]; exact (by decide : 2 ≤ 16777216), fun p hp => ⟨p, [u, w], rfl, .inl (.inl upd_same), rfl, u, [w], rfl, ?_⟩⟩
      have r1 : Rel G.K E n2 σ (upd H1 p (.tup [u, w])) := r.grow (same_upd hp) (fun a z => .inl z) fun a z hn => by
        obtain ⟨xs, e, mut0⟩ := r.ext a z
        rw [e] at hn
        cases hn
      have sm : Step n2 σ H1 n2 σ (upd H1 p (.tup [u, w])) := Step.same (same_upd hp)
      have s1 := (ar.step.trans s).trans sm
      have h3' : RV G.K (upd H1 p (.tup [u, w])) (OE E n2 σ) u d := RV.pres r.lo (r.pres sm fun a z => .inl z) h3
      have h4' : RV G.K (upd H1 p (.tup [u, w])) (OE E n2 σ) w g := RV.pres r.lo (r.pres sm fun a z => .inl z) h4
      refine store_run r1 s1 h3' P2 fun n3 H3 r3 s3 P3 => ⟨w, [], rfl, ?_⟩
      exact store_run r3 (s1.trans s3) (RV.pres r1.lo (r1.pres s3 fun a z => .inl z) h4') P3 fun n4 H4 r4 s4 P4 => ⟨rfl, P4 σ H4 r4 ((s1.trans s3).trans s4)⟩
  · exact P2.elim
/-! ### name op= e, xs[i] op= e -/
def rAug (op : Operator) : TIp := fun x y H Q => ∃ i j k, x = .int i ∧ y = .int j ∧ augD op (.int i) (.int j) = some (.int k) ∧ Q (.int k) H
theorem ip_aug (op : Operator) : PIp X op (rAug op) := by
  intro pins s σ H x y v u Q J rx ry ⟨i, j, k, e1, e2, e3, q⟩
  cases op with
  | Add => cases e3; exact ip_add pins s σ H x y v u Q J rx ry ⟨i, j, e1, e2, q⟩
  | Sub => cases e3; exact ip_sub pins s σ H x y v u Q J rx ry ⟨i, j, e1, e2, q⟩
  | _ => cases e3
theorem augD_int {op : Operator} {d e r : PyData} (h : augD op d e = some r) : ∃ i j k, d = .int i ∧ e = .int j ∧ r = .int k ∧ augD op (.int i) (.int j) = some (.int k) := by
  unfold augD at h
  split at h
  · cases h; exact ⟨_, _, _, rfl, rfl, rfl, rfl⟩
  · cases h; exact ⟨_, _, _, rfl, rfl, rfl, rfl⟩
  · cases h
theorem rd_s {K : PySem.W.Frag} {E : Addr → Prop} {n n' : En} {σ : L2.St} {H : Hp} {i : Nat} {d : PyData} (R : Rel K E n σ H) (e : rd (.s i) n = .ok d n') : ∃ v, σ[i]? = some (some v) ∧ RT K H (OE E n σ) v d := by
  simp only [rd] at e
  split at e
  · rename_i l p d' hs
    cases e
    obtain ⟨a, h1, h2, _⟩ := R.own i l p d hs
    exact ⟨_, h1, .inr ⟨a, rfl, h2⟩⟩
  · rename_i d' hs
    cases e
    obtain ⟨w, h1, h2⟩ := R.val i d hs
    exact ⟨w, h1, .inl h2⟩
  · cases e
theorem ss_aug {op : Operator} {i : Nat} {x : Str} (hN : X.N.Nodup) (hi : X.N[i]? = some x) (hx : Loc X.env.scope x) (hf : X.fn x = true ∨ X.env.scope.names.lookup x = some .local) (he : SE X G W e (ev cf ce)) : PS X (.AugAssign (.Name x p') op e pos) (tS G W (exec cf (.aug op i ce))) := by
  refine (ps_aug hN hi hx he (ip_aug op) hf).le fun D σ H ⟨E, n, R, P⟩ => ?_
  obtain ⟨d0, n0, e0, P0⟩ := PostS.ok (postS_bnd.mp P) fun _ _ _ => rd_noerr
  obtain ⟨v0, hv0, _⟩ := rd_s R e0
  have en : n0 = n := by
    simp only [rd] at e0
    split at e0 <;> first | (cases e0; rfl) | cases e0
  subst en
  refine ⟨v0, hv0, E, n0, R, ((postS_bnd.mp P0).toE .refl fun _ z => z).mono fun o n1 _ P1 w H1 er => ?_⟩
  obtain ⟨_, n2, e2, P2⟩ := PostS.ok (postS_bnd.mp P1) fun c pl n' ee => by
    rcases bnd_err (show bnd (rd (.s i)) _ n1 = _ from ee) with ee | ⟨d, m, _, ee⟩
    · exact rd_noerr ee
    · rcases bnd_err ee with ee | ⟨d, m, _, ee⟩
      · exact rd_noerr ee
      · rcases bnd_err ee with ee | ⟨d, m, _, ee⟩
        · generalize augD op _ _ = wo at ee
          cases wo <;> cases ee
        · exact putSl_noerr ee
  obtain ⟨d, m1, f1, f⟩ := bnd_ok (show bnd (rd (.s i)) _ n1 = _ from e2)
  obtain ⟨g, m2, f2, f⟩ := bnd_ok f
  obtain ⟨r, m3, f3, f⟩ := bnd_ok f
  obtain ⟨v1, hv1, hd⟩ := rd_s er.rel f1
  rw [hv0] at hv1
  cases hv1
  have em1 : m1 = n1 := by
    simp only [rd] at f1
    split at f1 <;> first | (cases f1; rfl) | cases f1
  subst em1
  obtain ⟨em2, hg⟩ := rd_ok er.rel er.op f2
  subst em2
  cases ha : augD op d g with
  | none => rw [ha] at f3; cases f3
  | some r' =>
    rw [ha] at f3
    cases f3
    obtain ⟨a, b, k, rfl, rfl, rfl, hk⟩ := augD_int ha
    cases hd.int
    cases hg.int
    obtain ⟨rfl, hl, hp⟩ := putSl_ok f
    obtain ⟨r2, s2, _⟩ := (er.rel.weak er.up).putV (v := .int k) (RV.int k) hl hp
    exact ⟨a, b, k, rfl, rfl, hk, P2 _ _ r2 (er.step.trans s2)⟩
def rGetL (K : PySem.W.Frag) : V → V → Hp → VK → Prop := fun o i H Q => ∃ p xs k v, o = .ref p ∧ i = .int k ∧ SqL K H p xs ∧ atI xs k = some v ∧ Q v H
theorem get_list : PGet X (rGetL X.K) := by
  intro pins s σ H o i ov iv Q J ro ri ⟨p, xs, k, z, e1, e2, hq, he, w⟩
  subst e1 e2
  cases ro
  obtain ⟨t, rfl⟩ := ri
  obtain ⟨its, r, pl, hz⟩ := J.list hq
  obtain ⟨j, h1, h2, h3, h4, h5⟩ := atI_get he
  obtain ⟨u, eu, ru⟩ := r.get h2
  have hl := r.length
  have hn := line63
  have fin : EP X pins σ Q u s := ⟨z, H, J, ru, w⟩
  by_cases h0 : 0 ≤ k
  · have hj : k.toNat = j := by
      rw [seqIndex_of h0 h5] at h1
      exact Option.some.inj h1
    exact PyProof.Rows.getItem_listL pl.isList h0 (by omega) (by rw [hj]; exact eu) fin
  · have hj : (k + (its.toArray.size : Int)).toNat = j := by
      rw [seqIndex_neg (by omega) h4] at h1
      rw [List.size_toArray, ← hl]
      exact Option.some.inj h1
    exact wpAny_getItem_list_neg (x := u) pl.isList (by omega) (by rw [List.size_toArray]; omega) (by omega) (by rw [hj]; simpa using eu) fin
theorem ss_augS {op : Operator} {a i : Expr} (hK : X.K = G.K) (ha : SE X G W a (ev cf ca)) (hi : SE X G W i (ev cf ci)) (he : SE X G W e (ev cf ce)) (hst : ∀ ov iv new, augStore i ov iv new = (do holding [new, ov, iv] (setItem ov iv new); release [new, ov, iv] []; pure .next)) : PS X (.AugAssign (.Subscript a i p') op e pos) (tS G W (exec cf (.augS op ca ci ce))) := by
  refine (ps_augS ha hi get_list he (ip_aug op) set_list hst).le fun D σ H ⟨E, n, R, P⟩ => ?_
  refine ⟨E, n, R, ((postS_bnd.mp P).toE .refl fun _ z => z).mono fun x n1 _ P1 xv H1 er => ?_⟩
  refine ⟨_, n1, er.rel, ((postS_bnd.mp P1).toE er.step er.up).mono fun y n2 _ P2 yv H2 er2 => ?_⟩
  have ox := er.first er2
  obtain ⟨xd, hxd, _, P3⟩ := postS_rd er2.rel ox P2
  obtain ⟨kd, hkd, _, P3⟩ := postS_rd er2.rel er2.op P3
  obtain ⟨d, hd, P4⟩ := postS_opt P3
  have shape : ∃ ds k, xd = .list ds ∧ kd = .int k ∧ atI ds k = some d := by
    clear P4 P3
    split at hd
    · exact ⟨_, _, rfl, rfl, hd⟩
    · cases hd
  · obtain ⟨ds, k, rfl, rfl, hd'⟩ := shape
    have hd := hd'
    clear hd'
    cases hkd.int
    obtain ⟨p, xs, rfl, h1, h2⟩ := hxd.list
    have ge : ∃ v, atI xs k = some v ∧ RV G.K H2 (OE (orP (orP E (tmp x (V.ref p))) (tmp y (V.int k))) n2 σ) v d := by
      unfold atI at hd ⊢
      rw [h2.length]
      cases hj : ixN ds.length k with
      | none => rw [hj] at hd; cases hd
      | some j =>
        rw [hj] at hd
        exact h2.get (show ds[j]? = some d from hd)
    obtain ⟨v, hv, rv⟩ := ge
    rw [hK]
    refine ⟨p, xs, k, v, rfl, rfl, .inl (.inl h1), hv, _, n2, er2.rel, ((postS_bnd.mp P4).toE (er.step.trans er2.step) fun a z => er2.up a (er.up a z)).mono fun z n3 _ P5 zv H3 er3 => ?_⟩
    obtain ⟨g, hg, _, P6⟩ := postS_rd er3.rel er3.op P5
    obtain ⟨r, hr, P7⟩ := postS_opt P6
    obtain ⟨i1, j1, k1, rfl, rfl, rfl, hk1⟩ := augD_int hr
    obtain ⟨_, n4, e4, P8⟩ := PostS.ok (postS_bnd.mp P7) fun _ _ _ => setAtL_noerr
    cases rv.i
    cases hg.int
    refine ⟨i1, j1, k1, rfl, rfl, hk1, ?_⟩
    have ox3 : Od G.K H3 (OE (orP (orP (orP E (tmp x (.ref p))) (tmp y (.int k))) (tmp z (.int j1))) n3 σ) σ x (.ref p) := ox.carry er2.rel er3.step (fun a q => q.imp id (er3.new a)) fun a q => .inl (.inr q)
    obtain ⟨p', ys, j', e5, h3, h4, r3, s3⟩ := setL_ok er3.rel ox3 (RV.int k1) e4
    cases e5
    exact ⟨p, ys, k, j', rfl, rfl, h3, h4, P8 σ _ (r3.weak fun a q => .inl (.inl (.inl q))) (((er.step.trans er2.step).trans er3.step).trans s3)⟩

/-! ### loops -/
theorem ss_while (hp : PassesOwn (model X.prog X.w) X.A X.env X.xe) (hc : ST X G W c (bnd (ev cf cc) truM)) (hb : PSs X body (tS G W (exec cf sa))) : PS X (.While c body [] pos) (tS G W (exec cf (.whl cc sa))) := by
  refine (ps_while hp hc hb).le fun D σ H ⟨E, n, R, P⟩ => ?_
  refine ⟨fun m σ' H' => ∃ n', Rel G.K E n' σ' H' ∧ Step n σ H n' σ' H' ∧ PostS G W E n σ H (EndF G E n σ H D) (whileF (bnd (ev cf cc) truM) (exec cf sa) m n'), ⟨fuel, n, R, .refl, P⟩, fun m σ1 H1 ⟨n1, R1, s1, P1⟩ => ?_⟩
  cases m with
  | zero => exact P1.elim
  | succ m =>
    refine ⟨E, n1, R1, ((postS_bnd.mp (show PostS G W E n σ H _ (bnd (bnd (ev cf cc) truM) _ n1) from P1)).toE s1 fun _ z => z).mono fun t n2 _ P2 H2 r2 s2 => ?_⟩
    cases t with
    | false =>
      rw [if_neg Bool.false_ne_true] at P2 ⊢
      exact P2 σ1 H2 r2 (s1.trans s2)
    | true =>
      rw [if_pos rfl] at P2 ⊢
      have s12 := s1.trans s2
      refine ⟨fun σ' H' => ∃ n', Rel G.K E n' σ' H' ∧ Step n σ H n' σ' H' ∧ PostS G W E n σ H (EndF G E n σ H D) (whileF (bnd (ev cf cc) truM) (exec cf sa) m n'), fun σ' H' z => ⟨m, Nat.lt_succ_self m, z⟩, E, n2, r2, PostS.imp (postS_bnd.mp P2) (fun fl n3 _ P3 => ?_) s12 fun _ z => z⟩
      cases fl with
      | next => exact fun σ' H' r s => ⟨n3, r, s12.trans s, P3⟩
      | cont => exact fun σ' H' r s => ⟨n3, r, s12.trans s, P3⟩
      | brk => exact fun σ' H' r s => P3 σ' H' r (s12.trans s)
      | ret o => exact EndF.later (D := D) (fl := .ret o) s12 P3
theorem postS_locked {E E1 : Addr → Prop} {n n1 n2 : En} {σ : L2.St} {H H1 : Hp} {src : List Nat} {α : Type} {P : α → En → Prop} {m : M α} (hl : lock src n1 = some n2) (h : PostS G W E n σ H P (locked src m n1)) : PostS G W E n σ H P ((m n2).mapN (unlock n1 src)) := by
  have e : locked src m n1 = (m n2).mapN (unlock n1 src) := by unfold locked; rw [hl]
  rw [← e]
  exact h
/-- within the bracket -/
theorem PostS.inner {E E1 : Addr → Prop} {n n1 n2 n3 : En} {σ σ3 : L2.St} {H H1 H3 : Hp} {src : List Nat} {α : Type} {P P' : α → En → Prop} {r : Res α} (hl : lock src n1 = some n2) (s1 : Step n σ H n1 σ H1) (hE : ∀ a, E a → E1 a) (s3 : Step n2 σ H1 n3 σ3 H3) (h : PostS G W E n σ H P (r.mapN (unlock n1 src)))
    (hp : ∀ a n', r = .ok a n' → P a (unlock n1 src n') → P' a n') : PostS G W E1 n3 σ3 H3 P' r := by
  cases r with
  | ok a n' => exact hp a n' rfl h
  | bad => exact h
  | err c pl n' =>
    intro σ' H' dx fs vp R s h1 h2 h3 h4
    refine h σ' H' dx fs vp ((unlock_rel R).weak hE) (s1.trans (lock_step hl (s3.trans s))) h1 h2 (RV.anti (fun a z => z.imp (hE a) (unlock_fl.exc a)) h3) h4
theorem ss_for {t : Tg} {k : Ik} (hK : X.K = G.K) (hp : PassesOwn (model X.prog X.w) X.A X.env X.xe) (hc : X.calm = true) (hi : PI X tg it (tI G W (isTu t) (bnd (evs cf cits) (walk k)))) (hg : PG X tg (tG G.K t)) (hb : PSs X body (tS G W (exec cf sa))) (hs : ∀ x, foldedSetIterable it X.env x = pure x) :
    PS X (.For tg it body [] pos) (tS G W (exec cf (.forr t k cits sa))) := by
  refine (ps_for hp hc hi hg hb hs).le fun D σ H ⟨E, n, R, P⟩ => ?_
  refine ⟨E, n, R, ((postS_bnd.mp P).toE .refl fun _ z => z).mono fun w n1 _ P1 E1 H1 J wr => ?_⟩
  cases hl : lock w.2 n1 with
  | none =>
    have e : ∀ m : M Flow, locked w.2 m n1 = .bad := fun m => by unfold locked; rw [hl]
    rw [e] at P1
    exact P1.elim
  | some n2 =>
    have P2 := postS_locked (E1 := E1) (n2 := n2) (H1 := H1) hl P1
    obtain ⟨I, S, I0, _⟩ := wr.src n2 hl
    have R2 : Rel G.K E1 n2 σ H1 := (lock_fl hl).rel wr.rel
    have src : ∀ {n' : En} {σ' : L2.St} {H' : Hp}, Step n2 σ H1 n' σ' H' → I E1 n' σ' H' := fun {n' σ' H'} st => S.stable I0 R2 st.st0 fun a z => .inl z
    have out : ∀ {n' : En} {σ' : L2.St} {H' : Hp}, Step n2 σ H1 n' σ' H' → Step n σ H (unlock n1 w.2 n') σ' H' := fun {n' σ' H'} st => wr.step.trans (lock_step hl st)
    refine ⟨fun i m σ' H' => m = w.1.length - i ∧ i ≤ w.1.length ∧ ∃ n', Rel G.K E1 n' σ' H' ∧ Step n2 σ H1 n' σ' H' ∧ PostS G W E n σ H (EndF G E n σ H D) ((turnsF (fun x => bnd (setT t x) fun _ => exec cf sa) (w.1.drop i) n').mapN (unlock n1 w.2)), ⟨w.1.length, by simp, Nat.zero_le _, n2, R2, .refl, by rw [List.drop_zero]; exact P2⟩, fun i m σ1 H2 ⟨em, hle, n', R3, s3, P3⟩ => ?_⟩
    by_cases hi : i < w.1.length
    · refine .inr ?_
      rw [drop_cons hi] at P3
      have hx : w.1[i]? = some w.1[i] := List.getElem?_eq_getElem hi
      obtain ⟨hgo, hy⟩ := S.go (src s3) R3 hx
      refine ⟨hgo, fun σ' H' => ∃ n', Rel G.K E1 n' σ' H' ∧ Step n2 σ H1 n' σ' H' ∧ PostS G W E n σ H (EndF G E n σ H D) ((turnsF (fun x => bnd (setT t x) fun _ => exec cf sa) (w.1.drop (i + 1)) n').mapN (unlock n1 w.2)), fun σ' H' z => ⟨w.1.length - (i + 1), by omega, rfl, hi, z⟩, fun xv H' yl => ?_⟩
      obtain ⟨sm, iv⟩ := hy xv H' yl
      have sy : Step n' σ1 H2 n' σ1 H' := Step.same sm
      have Ry : Rel G.K E1 n' σ1 H' := R3.grow sm (fun a z => .inl z) fun a z hn => by
        obtain ⟨xs, e, mut0⟩ := R3.ext a z
        rw [e] at hn
        cases hn
      have s4 := s3.trans sy
      -- the store
      generalize hF : (fun x => bnd (setT t x) fun _ => exec cf sa) = F at P3 ⊢
      have e0 : turnsF F (w.1[i] :: w.1.drop (i + 1)) n' = bnd (bnd (setT t w.1[i]) fun _ => exec cf sa) (nextT (turnsF F (w.1.drop (i + 1)))) n' := by rw [← hF]; rfl
      rw [e0] at P3
      cases est : setT t w.1[i] n' with
      | bad =>
        have e1 : bnd (bnd (setT t w.1[i]) fun _ => exec cf sa) (nextT (turnsF F (w.1.drop (i + 1)))) n' = .bad := by unfold bnd; rw [est]
        rw [e1] at P3
        exact P3.elim
      | err c pl n3 => exact absurd est (setT_noerr _ _ _)
      | ok _ n3 =>
        refine ⟨E1, n', w.1[i], n3, Ry, iv.imp id fun z => z, est, fun σ2 R5 s5 _ => ?_⟩
        have s25 := s4.trans s5
        have e1 : bnd (bnd (setT t w.1[i]) fun _ => exec cf sa) (nextT (turnsF F (w.1.drop (i + 1)))) n' = bnd (exec cf sa) (nextT (turnsF F (w.1.drop (i + 1)))) n3 := by unfold bnd; rw [est]
        rw [e1] at P3
        refine ⟨E1, n3, R5, ?_⟩
        cases hb : exec cf sa n3 with
        | bad =>
          have e2 : bnd (exec cf sa) (nextT (turnsF F (w.1.drop (i + 1)))) n3 = .bad := by unfold bnd; rw [hb]
          rw [e2] at P3
          exact P3.elim
        | err c pl n4 =>
          have e2 : bnd (exec cf sa) (nextT (turnsF F (w.1.drop (i + 1)))) n3 = .err c pl n4 := by unfold bnd; rw [hb]
          rw [e2] at P3
          exact PostS.inner (P := EndF G E n σ H D) (P' := EndF G E1 n3 σ2 H' _) (r := .err c pl n4) hl wr.step wr.up s25 P3 fun a n' z => by cases z
        | ok fl n4 =>
          have e2 : bnd (exec cf sa) (nextT (turnsF F (w.1.drop (i + 1)))) n3 = nextT (turnsF F (w.1.drop (i + 1))) fl n4 := by unfold bnd; rw [hb]
          rw [e2] at P3
          cases fl with
          | next => exact fun σ' H'' r s => ⟨n4, r, s25.trans s, P3⟩
          | cont => exact fun σ' H'' r s => ⟨n4, r, s25.trans s, P3⟩
          | brk => exact fun σ' H'' r s => P3 σ' H'' ((unlock_rel r).weak wr.up) (out (s25.trans s))
          | ret o =>
            intro v σ' H'' sr
            refine P3 v σ' H'' ⟨(unlock_rel sr.rel).weak fun a z => z.imp (wr.up a) id, sr.op.anti fun a z => z.imp (fun z => z.imp (wr.up a) id) (unlock_fl.exc a), out (s25.trans sr.step), fun a z => ?_⟩
            cases e : H a with
            | none => rfl
            | some u => exact absurd (sr.new a z) ((wr.step.trans (lock_step hl s25)).tr a (by rw [e]; exact fun h => by cases h))
    · refine .inl ⟨S.stop (src s3) (by omega), ?_⟩
      have ei : i = w.1.length := by omega
      rw [ei, List.drop_length] at P3
      exact P3 σ1 H2 ((unlock_rel R3).weak wr.up) (out s3)
end
end DM
set_option Elab.async false
set_option linter.all false
set_option maxRecDepth 100000
/-! DM16: comprehensions as rules; what the text's side asks. -/
namespace DM
open PySem PySem.Spec PyProof.Rows L2

section
variable {X : Cx} {G : GX} {W : WX} {cf : Cf}
/-! ### comprehensions -/
abbrev blkX (X : Cx) (scope : Scope) (s : Shared) (H : Hp) (C : Addr) (cl : List (Str × Addr)) (fp : List Addr) : Cx := X.blk s H scope (compEnvC scope cl C X.env) fp
theorem pts_none : PTs X [] (tT G W (tst cf .nil)) := ⟨fun pins s σ H Q I ⟨E, n, R, P⟩ => pts_nil.run pins s σ H Q I (P H R .refl)⟩
theorem pts_some {c : Expr} {cc : Ex} (h : ST X G W c (bnd (ev cf cc) truM)) : PTs X [c] (tT G W (tst cf (.cons cc .nil))) := ⟨fun pins s σ H Q I w => (pts_one h).run pins s σ H Q I w⟩
section
variable {elt tg iter tg1 iter1 : Expr} {ifs ifs1 : List Expr} {scope : Scope} {own : List (Str × Nat)} {pos : Pos} {t t1 : Tg} {k k1 : Ik} {its cifs its1 cifs1 celt : Ex} {own1 : List Nat}
theorem se_comp (hc : X.calm = true) (hN : X.N.Nodup) (hi : PI X tg iter (tI G W (isTu t) (bnd (evs cf its) (walk k)))) (ok : BlkOk X.N X.env.scope scope own) (ho : ∀ i ∈ tgN t, i ∈ own.map (·.2))
    (hg : ∀ s H C cl fp, PG (blkX X scope s H C cl fp) tg (tG G.K t)) (ht : ∀ s H C cl fp, PTs (blkX X scope s H C cl fp) ifs (tT G WF (tst cf cifs))) (he : ∀ s H C cl fp, SE (blkX X scope s H C cl fp) G WF elt (ev cf celt)) (hs : ∀ x, foldedSetIterable iter X.env x = pure x) :
    SE X G W (.ListComp elt [⟨tg, iter, ifs, 0⟩] scope pos) (ev cf (.comp (own.map (·.2)) t k its cifs celt)) :=
  (pe_lc hc hN hi ok hg ht he hs).le fun σ H Q h => tE_comp ho h
theorem se_comp2 (hc : X.calm = true) (hN : X.N.Nodup) (hi : PI X tg iter (tI G W (isTu t) (bnd (evs cf its) (walk k)))) (ok : BlkOk X.N X.env.scope scope own) (ho : ∀ i ∈ tgN t, i ∈ own.map (·.2)) (ho1 : ∀ i ∈ tgN t1, i ∈ own1) (hv : ∀ i ∈ own1, i ∈ own.map (·.2))
    (hg : ∀ s H C cl fp, PG (blkX X scope s H C cl fp) tg (tG G.K t)) (ht : ∀ s H C cl fp, PTs (blkX X scope s H C cl fp) ifs (tT G WF (tst cf cifs)))
    (hi1 : ∀ s H C cl fp, PI (blkX X scope s H C cl fp) tg1 iter1 (tI G WF (isTu t1) (bnd (evs cf its1) (walk k1)))) (hg1 : ∀ s H C cl fp, PG (blkX X scope s H C cl fp) tg1 (tG G.K t1)) (ht1 : ∀ s H C cl fp, PTs (blkX X scope s H C cl fp) ifs1 (tT G WF (tst cf cifs1)))
    (he : ∀ s H C cl fp, SE (blkX X scope s H C cl fp) G WF elt (ev cf celt)) (hs : ∀ x, foldedSetIterable iter X.env x = pure x) (hs1 : ∀ env x, foldedSetIterable iter1 env x = pure x) :
    SE X G W (.ListComp elt [⟨tg, iter, ifs, 0⟩, ⟨tg1, iter1, ifs1, 0⟩] scope pos) (ev cf (.comp2 (own.map (·.2)) own1 t k its cifs t1 k1 its1 cifs1 celt)) :=
  (pe_lc2 hc hN hi ok hv hg ht hi1 hg1 ht1 he hs hs1).le fun σ H Q h => tE_comp2 ho ho1 hv h
/-- name = [..] on one line -/
theorem ss_asgC {i : Nat} {y : Str} {py spos : Pos} (hc : X.calm = true) (hN : X.N.Nodup) (hy : X.N[i]? = some y) (hyl : X.env.scope.names.lookup y = some .local) (hsw : swapsWith (.ListComp elt [⟨tg, iter, ifs, 0⟩] scope pos) (some (.Name y py)) spos.line X.env = pure true)
    (hi : PI X tg iter (tI G W (isTu t) (bnd (evs cf its) (walk k)))) (ok : BlkOk X.N X.env.scope scope own) (ho : ∀ i ∈ tgN t, i ∈ own.map (·.2))
    (hg : ∀ s H C cl fp, PG (blkX X scope s H C cl fp) tg (tG G.K t)) (ht : ∀ s H C cl fp, PTs (blkX X scope s H C cl fp) ifs (tT G WF (tst cf cifs))) (he : ∀ s H C cl fp, SE (blkX X scope s H C cl fp) G WF elt (ev cf celt)) (hs : ∀ x, foldedSetIterable iter X.env x = pure x) :
    PS X (.Assign [.Name y py] (.ListComp elt [⟨tg, iter, ifs, 0⟩] scope pos) spos) (tS G W (exec cf (.asg i (.comp (own.map (·.2)) t k its cifs celt)))) :=
  (ps_setLc hc hN hy hyl hsw hi ok hg ht he hs).le fun D σ H h => tE_comp ho (tS_asg h)
theorem ss_asgC2 {i : Nat} {y : Str} {py spos : Pos} (hc : X.calm = true) (hN : X.N.Nodup) (hy : X.N[i]? = some y) (hyl : X.env.scope.names.lookup y = some .local) (hsw : swapsWith (.ListComp elt [⟨tg, iter, ifs, 0⟩, ⟨tg1, iter1, ifs1, 0⟩] scope pos) (some (.Name y py)) spos.line X.env = pure true)
    (hi : PI X tg iter (tI G W (isTu t) (bnd (evs cf its) (walk k)))) (ok : BlkOk X.N X.env.scope scope own) (ho : ∀ i ∈ tgN t, i ∈ own.map (·.2)) (ho1 : ∀ i ∈ tgN t1, i ∈ own1) (hv : ∀ i ∈ own1, i ∈ own.map (·.2))
    (hg : ∀ s H C cl fp, PG (blkX X scope s H C cl fp) tg (tG G.K t)) (ht : ∀ s H C cl fp, PTs (blkX X scope s H C cl fp) ifs (tT G WF (tst cf cifs)))
    (hi1 : ∀ s H C cl fp, PI (blkX X scope s H C cl fp) tg1 iter1 (tI G WF (isTu t1) (bnd (evs cf its1) (walk k1)))) (hg1 : ∀ s H C cl fp, PG (blkX X scope s H C cl fp) tg1 (tG G.K t1)) (ht1 : ∀ s H C cl fp, PTs (blkX X scope s H C cl fp) ifs1 (tT G WF (tst cf cifs1)))
    (he : ∀ s H C cl fp, SE (blkX X scope s H C cl fp) G WF elt (ev cf celt)) (hs : ∀ x, foldedSetIterable iter X.env x = pure x) (hs1 : ∀ env x, foldedSetIterable iter1 env x = pure x) :
    PS X (.Assign [.Name y py] (.ListComp elt [⟨tg, iter, ifs, 0⟩, ⟨tg1, iter1, ifs1, 0⟩] scope pos) spos) (tS G W (exec cf (.asg i (.comp2 (own.map (·.2)) own1 t k its cifs t1 k1 its1 cifs1 celt)))) :=
  (ps_setLc2 hc hN hy hyl hsw hi ok hv hg ht hi1 hg1 ht1 he hs hs1).le fun D σ H h => tE_comp2 ho ho1 hv (tS_asg h)
end

/-! ### list(range(..)), tuple(range(..)) -/
theorem rgV_rvs {K : PySem.W.Frag} {H : Hp} {O : Addr → Prop} {a b : Int} : RVs K H O (rgV a b) (rng a b) := by
  unfold rgV rng
  generalize List.range (b - a).toNat = l
  induction l with
  | nil => exact .nil
  | cons i l ih => exact .cons (.int _) ih
theorem rgOk_of {a b : Int} (h : (small62 a && small62 b && decide ((b - a).toNat ≤ 16777216)) = true) : RgOk a b := by
  simp only [Bool.and_eq_true, decide_eq_true_eq] at h
  obtain ⟨a1, a2⟩ := small62_le h.1.1
  obtain ⟨b1, b2⟩ := small62_le h.1.2
  exact ⟨a1, a2, b1, b2, by have := h.2; omega⟩
def tTupRgT (te : L2.St → Hp → (Int → Int → Hp → Prop) → Prop) : TE := fun σ H Q => te σ H fun a b H1 => RgOk a b ∧ NewT H1 (rgV a b) Q
theorem pe_tupRgT {e : Expr} {te : L2.St → Hp → (Int → Int → Hp → Prop) → Prop} {p pos : Pos} (hc : X.calm = true) (hg : Gl X "tuple") (hm : X.mg "tuple" = none) (he : PRg X e te) (na : starEach [e] X.env = (false, eval e X.env) :: starEach [] X.env) : PE X (.Call (.Name "tuple" p) [e] [] pos) (tTupRgT te) := by
  refine ⟨fun pins s σ H Q J w => Call_ (ld_blt J hg hm boot_tuple (PyProof.Rows.callWith_type1 (args_cons (thn (he pins s σ H _ J w) fun x s1 ⟨r, a, b, t, u, v, H1, ex, hr, J1, ok, q⟩ => args_nil ?_) na) na))⟩
  subst ex
  obtain ⟨o1, o2, o3, o4, o5⟩ := ok
  refine call_tuple_range (n := (b - a).toNat) (J1.ok.hd hc) hr (small_one o1 o2 o3 o4) (rangeSize_nat a b) o5 fun h2 tk acc kp hi => ?_
  have J2 : Inv X pins σ H1 { s1 with heap := h2, toks := tk } := J1.kept kp
  have e : acc = acc.toList.toArray := by rw [Array.toArray_toList]
  rw [e]
  exact laidT J2 (vals_rg hi) (by rw [rgV_length, sizeLine_eq]; omega) q
/-- range(a), range(a, b) as an argument -/
inductive RgE (X : Cx) (G : GX) (W : WX) (cf : Cf) : Expr → Ex → Ex → Prop
  | one {a : Expr} {ca : Ex} {p pos : Pos} : Gl X "range" → X.mg "range" = none → SE X G W a (ev cf ca) → starEach [a] X.env = (false, eval a X.env) :: starEach [] X.env → RgE X G W cf (.Call (.Name "range" p) [a] [] pos) (.con (.int 0)) ca
  | two {a b : Expr} {ca cb : Ex} {p pos : Pos} : Gl X "range" → X.mg "range" = none → SE X G W a (ev cf ca) → SE X G W b (ev cf cb) → starEach [a, b] X.env = (false, eval a X.env) :: starEach [b] X.env → starEach [b] X.env = (false, eval b X.env) :: starEach [] X.env → (backTo pos (starEach [b] X.env)).any (·.1) = false →
      RgE X G W cf (.Call (.Name "range" p) [a, b] [] pos) ca cb
def tRgD (G : GX) (W : WX) (cf : Cf) (ca cb : Ex) : L2.St → Hp → (Int → Int → Hp → Prop) → Prop := fun σ H Q => ∃ E n, Rel G.K E n σ H ∧ Post G W E n σ H (fun ds n' => ∃ a b, ds = [PyData.int a, PyData.int b] ∧ ∀ E1 H', Rel G.K E1 n' σ H' → (∀ a, E a → E1 a) → Step n σ H n' σ H' → Q a b H') (bnd (evs cf (.cons ca (.cons cb .nil))) rds n)
theorem two_form {α : Type} {ca cb : Ex} {k : List Opd → M α} (n : En) : bnd (evs cf (.cons ca (.cons cb .nil))) k n = bnd (ev cf ca) (fun x => bnd (ev cf cb) fun y => k [x, y]) n := by
  show bnd (bnd (ev cf ca) fun o => bnd (bnd (ev cf cb) fun o => bnd (ret []) fun os => ret (o :: os)) fun os => ret (o :: os)) k n = _
  unfold bnd
  cases ev cf ca n with
  | ok a n1 =>
    dsimp only
    cases ev cf cb n1 <;> rfl
  | err c pl n1 => rfl
  | bad => rfl
theorem rgE_prg {e : Expr} {ca cb : Ex} (h : RgE X G W cf e ca cb) : PRg X e (tRgD G W cf ca cb) := by
  cases h with
  | one hg hm ha hs =>
    intro pins s σ H Q J ⟨E, n, R, P⟩
    rw [two_form] at P
    refine prg_1 hg hm ha hs pins s σ H Q J ⟨E, n, R, ?_⟩
    -- the first operand is the number 0
    have P0 : Post G W E n σ H _ (bnd (ev cf cb) (fun y => rds [Opd.v (.int 0), y]) n) := P
    refine (post_bnd.mp P0).mono fun y n1 _ P1 v H1 er => ?_
    have P2 : Post G W E n σ H (fun ds n' => ∃ a b, ds = [PyData.int a, PyData.int b] ∧ ∀ E1 H', Rel G.K E1 n' σ H' → (∀ a, E a → E1 a) → Step n σ H n' σ H' → Q a b H') (bnd (rd y) (fun e => ret [PyData.int 0, e]) n1) := by
      have e : rds [Opd.v (.int 0), y] n1 = bnd (rd y) (fun e => ret [PyData.int 0, e]) n1 := by
        show bnd (ret (PyData.int 0)) (fun d => bnd (bnd (rd y) fun e => bnd (ret []) fun ds => ret (e :: ds)) fun ds => ret (d :: ds)) n1 = _
        simp only [bnd, ret]
        cases rd y n1 <;> rfl
      rw [← e]
      exact P1
    obtain ⟨d, hd, P3⟩ := post_rd er.rel er.op P2
    obtain ⟨a, b, e1, q⟩ := P3
    cases e1
    cases hd.int
    exact ⟨b, rfl, q _ H1 er.rel er.up er.step⟩
  | two hg hm ha hb hs hs2 hp =>
    intro pins s σ H Q J ⟨E, n, R, P⟩
    rw [two_form] at P
    refine prg_2 hg hm ha hb hs hs2 hp pins s σ H Q J ⟨E, n, R, (post_bnd.mp P).mono fun x n1 _ P1 v H1 er => ?_⟩
    refine ⟨_, n1, er.rel, (post_bnd.mp P1).imp (fun y n2 _ P2 u H2 er2 => ?_) fun c pl n' z => z.later er.step er.up⟩
    obtain ⟨ds, rs, P3⟩ := post_rds (f := fun ds => ret ds) (os := [x, y]) (vs := [v, u]) er2.rel (.cons (er.first er2) (.cons er2.op .nil)) (by
      have e : bnd (rds [x, y]) (fun ds => ret ds) n2 = rds [x, y] n2 := by unfold bnd; cases rds [x, y] n2 <;> rfl
      rw [e]
      exact P2)
    obtain ⟨a, b, e1, q⟩ := P3
    subst e1
    match rs with
    | .cons h1 (.cons h2 .nil) =>
      cases h1.int
      cases h2.int
      exact ⟨a, b, rfl, rfl, q _ H2 er2.rel (fun a z => er2.up a (er.up a z)) (er.step.trans er2.step)⟩
theorem tE_rg {ca cb : Ex} {b : Bf} {σ : L2.St} {H : Hp} {Q : VK} {R : Int → Int → Hp → Prop} (h : tE G W (ev cf (.blt b (.cons ca (.cons cb .nil)))) σ H Q)
    (hf : ∀ ds o, bltD b ds = some o → ∃ i j, ds = [PyData.int i, PyData.int j])
    (hk : ∀ E E1 n n1 i j o H1, bltD b [.int i, .int j] = some o → Rel G.K E1 n1 σ H1 → (∀ a, E a → E1 a) → Step n σ H n1 σ H1 → (∀ z H', ER G.K E n σ H o n1 z H' → Q z H') → R i j H1) : tRgD G W cf ca cb σ H R := by
  obtain ⟨E, n, R0, P⟩ := h
  refine ⟨E, n, R0, ?_⟩
  have P' : Post G W E n σ H (fun o n' => ∀ v H', ER G.K E n σ H o n' v H' → Q v H') (bnd (bnd (evs cf (.cons ca (.cons cb .nil))) rds) (fun ds => opt (bltD b ds)) n) := by
    have e : bnd (bnd (evs cf (.cons ca (.cons cb .nil))) rds) (fun ds => opt (bltD b ds)) n = ev cf (.blt b (.cons ca (.cons cb .nil))) n := by
      show _ = bnd (evs cf (.cons ca (.cons cb .nil))) (fun os => bnd (rds os) fun ds => opt (bltD b ds)) n
      unfold bnd
      cases evs cf (.cons ca (.cons cb .nil)) n <;> rfl
    rw [e]
    exact P
  refine (post_bnd.mp P').mono fun ds n1 _ P1 => ?_
  obtain ⟨o, eo, P2⟩ := post_opt1 P1
  obtain ⟨i, j, rfl⟩ := hf ds o eo
  exact ⟨i, j, rfl, fun E1 H' r up st => hk E E1 n n1 i j o H' eo r up st P2⟩
theorem se_listRg {e : Expr} {ca cb : Ex} {p pos : Pos} (hc : X.calm = true) (hg : Gl X "list") (hm : X.mg "list" = none) (he : RgE X G W cf e ca cb) (na : starEach [e] X.env = (false, eval e X.env) :: starEach [] X.env) : SE X G W (.Call (.Name "list" p) [e] [] pos) (ev cf (.blt .listr (.cons ca (.cons cb .nil)))) := by
  refine (pe_listRg hc hg hm (rgE_prg he) na).le fun σ H Q h => tE_rg h (fun ds o eo => ?_) fun E E1 n n1 i j o H1 eo r up st q => ?_
  · change blistrD ds = some o at eo
    unfold blistrD at eo
    split at eo
    · exact ⟨_, _, rfl⟩
    · cases eo
  · change blistrD [.int i, .int j] = some o at eo
    unfold blistrD at eo
    simp only at eo
    split at eo
    · rename_i hb
      cases eo
      exact ⟨rgOk_of hb, fun q' hq => q _ _ (ER.fin r st up (PR.lst r.lo rgV_rvs hq))⟩
    · cases eo
theorem se_tupRg {e : Expr} {ca cb : Ex} {p pos : Pos} (hc : X.calm = true) (hg : Gl X "tuple") (hm : X.mg "tuple" = none) (he : RgE X G W cf e ca cb) (na : starEach [e] X.env = (false, eval e X.env) :: starEach [] X.env) : SE X G W (.Call (.Name "tuple" p) [e] [] pos) (ev cf (.blt .tupler (.cons ca (.cons cb .nil)))) := by
  refine (pe_tupRgT hc hg hm (rgE_prg he) na).le fun σ H Q h => tE_rg h (fun ds o eo => ?_) fun E E1 n n1 i j o H1 eo r up st q => ?_
  · change btuplerD ds = some o at eo
    unfold btuplerD at eo
    split at eo
    · exact ⟨_, _, rfl⟩
    · cases eo
  · change btuplerD [.int i, .int j] = some o at eo
    unfold btuplerD at eo
    simp only at eo
    split at eo
    · rename_i hb
      cases eo
      exact ⟨rgOk_of hb, PR.newT r.lo rgV_rvs fun z H' pr => q z H' (ER.fin r st up pr)⟩
    · cases eo
/-- a module's constant -/
theorem se_glob {x : Str} {v : V} {u : Value} {d : PyData} {pos : Pos} (hg : Gl X x) (hm : X.mg x = some u) (r : RelV v u) (hr : ∀ H O, RV G.K H O v d) (hd : (x == ("__debug__" : Str)) = false) : SE X G W (.Name x pos) (ev cf (.con d)) :=
  (pe_glob hg hm r hd).le fun σ H Q ⟨E, n, R, P⟩ => P v H ⟨R.weak fun a q => q.elim id False.elim, hr _ _, .refl, fun _ q => q.elim⟩
theorem tI_tu {tg e : Expr} {m : M (List PyData × List Nat)} {tu : Bool} (h : PI X tg e (tI G W false m)) : PI X tg e (tI G W tu m) := by
  refine h.le fun σ H R ⟨E, n, R0, P⟩ => ⟨E, n, R0, P.mono fun w n1 _ P1 E1 H1 J wr => P1 E1 H1 J ⟨wr.rel, wr.up, wr.step, wr.new, fun n2 hl => ?_⟩⟩
  obtain ⟨I, S, h1, h2⟩ := wr.src n2 hl
  refine ⟨I, ⟨S.stable, fun i r e => ?_, S.stop⟩, h1, h2⟩
  obtain ⟨g1, g2⟩ := S.go i r e
  exact ⟨g1, fun x H' y => ⟨(g2 x H' y).1, (g2 x H' y).2.imp id fun z => absurd z.1 (by decide)⟩⟩
end

/-! ### stars, names, what is folded -/
def isStar : Expr → Bool
  | .Starred _ _ => true
  | _ => false
theorem starEach_cons {e : Expr} {es : List Expr} {env : Env} (h : isStar e = false) : starEach (e :: es) env = (false, eval e env) :: starEach es env := by
  cases e <;> first | rfl | cases h
theorem assignEach_cons {e : Expr} {es : List Expr} {env : Env} (h : isStar e = false) : assignEach (e :: es) env = (false, assign e env) :: assignEach es env := by
  cases e <;> first | rfl | cases h
theorem noStar_any {env : Env} {pos : Pos} : ∀ {es : List Expr}, es.all (fun e => !isStar e) = true → (backTo pos (starEach es env)).any (·.1) = false
  | [], _ => rfl
  | e :: es, h => by
    simp only [List.all_cons, Bool.and_eq_true] at h
    have h1 : isStar e = false := by simpa using h.1
    rw [starEach_cons h1]
    exact noStar_any (es := es) h.2
theorem noStar_all {env : Env} {pos : Pos} : ∀ {es : List Expr}, es.all (fun e => !isStar e) = true → (backTo pos (starEach es env)).all (fun x => !x.1) = true
  | [], _ => rfl
  | e :: es, h => by
    simp only [List.all_cons, Bool.and_eq_true] at h
    have h1 : isStar e = false := by simpa using h.1
    rw [starEach_cons h1]
    exact noStar_all (es := es) h.2
theorem assign_len {env : Env} : ∀ {es : List Expr}, es.all (fun e => !isStar e) = true → (assignEach es env).length = es.length ∧ (assignEach es env).findIdx? (·.1) = none
  | [], _ => ⟨rfl, rfl⟩
  | e :: es, h => by
    simp only [List.all_cons, Bool.and_eq_true] at h
    have h1 : isStar e = false := by simpa using h.1
    obtain ⟨i1, i2⟩ := assign_len (env := env) (es := es) h.2
    rw [assignEach_cons h1]
    exact ⟨by rw [List.length_cons, List.length_cons, i1], by rw [List.findIdx?_cons, i2]; rfl⟩
theorem plain_of {X : Cx} {e : Expr} {es : List Expr} {pos : Pos} (h : (e :: es).all (fun e => !isStar e) = true) : Plain X e es pos := by
  simp only [List.all_cons, Bool.and_eq_true] at h
  exact ⟨starEach_cons (by simpa using h.1), noStar_any h.2⟩
def notSuper : Expr → Bool
  | .Call (.Name _ _) [] [] _ => false
  | _ => true
theorem attr_base {o : Expr} {name : Str} {env : Env} (h : notSuper o = true) : attributeBase o name env (eval o env) = eval o env := by
  unfold attributeBase
  split
  · cases h
  · rfl
def isSet : Expr → Bool
  | .Set _ _ _ => true
  | _ => false
theorem folded_of {e : Expr} {env : Env} (h : isSet e = false) (x : Value) : foldedSetIterable e env x = pure x := by
  cases e <;> first | rfl | cases h
def isComp : Expr → Bool
  | .ListComp .. => true
  | .SetComp .. => true
  | .DictComp .. => true
  | _ => false
theorem swaps_no {e : Expr} {t : Option Expr} {l : Nat} {env : Env} (h : isComp e = false) : swapsWith e t l env = pure false := by
  cases e <;> first | rfl | cases h
theorem swaps_other {e t : Expr} {l : Nat} {env : Env} (h : match t with | .Name _ _ => False | _ => True) : swapsWith e (some t) l env = pure false := by
  unfold swapsWith
  cases e <;> first
    | rfl
    | (cases t <;> first | rfl | exact h.elim)
theorem isTrue_plain {e : Expr} {env : Env} (h : match e with | .UnaryOp .Not _ _ => False | .BoolOp _ _ _ => False | .IfExp _ _ _ _ => False | .Compare _ _ _ _ => False | _ => True) : ∀ whole, isTrue e env whole = (do let v ← whole; standAt e.pos; holding [v] (truthy v)) := by
  intro whole
  cases e <;> first
    | rfl
    | exact h.elim
    | (rename_i op _ _; cases op <;> first | rfl | exact h.elim)
theorem mok_of {X : Cx} {o e : Expr} {name : Str} {apos cpos : Pos} {es : List Expr} (h1 : notSuper o = true) (h2 : (e :: es).all (fun e => !isStar e) = true) (h3 : (e :: es).length < 30) (h4 : (apos.endLine == cpos.line) = true) : MOk X o name apos cpos e es := by
  refine ⟨attr_base h1, ?_, h4, plain_of h2⟩
  rw [noStar_all h2]
  have : (backToKw cpos (keywordEach [] X.env)).all (fun x => x.1.isSome) = true := rfl
  rw [this]
  have h5 : (e :: es).length + 0 + 0 < 30 := h3
  show (true && true && decide ((e :: es).length + 0 + 0 < 30)) = true
  rw [decide_eq_true h5]
  rfl
def notSlice : Expr → Bool
  | .Slice _ _ none _ => false
  | _ => true
theorem plainIx_of {b : Expr} (h : notSlice b = true) : PlainIx b := fun o i => by
  unfold subscripted
  split
  · cases h
  · rename_i h2; cases h2
  · rfl
theorem augStore_of {i : Expr} (h : notSlice i = true) : ∀ ov iv new, augStore i ov iv new = (do holding [new, ov, iv] (setItem ov iv new); release [new, ov, iv] []; pure .next) := fun ov iv new => by
  unfold augStore
  split
  · cases h
  · rfl
def notSetB : Expr → Bool
  | .Set _ _ _ => false
  | _ => true
theorem marks_of {op : CmpOp} {b : Expr} (h : notSetB b = true) : behindInMarks op b = false := by
  cases b <;> first | rfl | cases h
theorem takesF {X : Cx} : Takes X WF := fun u s' ⟨_, _, _, _, _, _, _, _, _, _, _, _, _, _, _, _, w⟩ => w.elim
end DM
set_option Elab.async false
set_option linter.all false
set_option maxRecDepth 100000
set_option maxHeartbeats 400000
/-! DMS: slices with a step: xs[::-1] of a list, t[0::2] of a tuple of three. -/
namespace DM
open PySem PySem.Spec PyProof.Rows L2
section
variable {prog : Program} {w : World} {A : Around} {E : Value → Shared → Prop} {s : Shared}
theorem sliceApplied_02 {sl : Addr} {v0 v2 : Value} {Q : Int × Int × Nat → Shared → Prop} (hs : s.heap.IsSliceOf sl v0 .none v2) (p0 : IsPart v0 (some 0)) (p2 : IsPart v2 (some 2))
    (h : Q (0, 2, 2) s) : wpAny (model prog w) A (Builtin.Slice.sliceApplied (.ref sl) (pure ((3 : Nat) : Int))) Q E s := by
  obtain ⟨os, hos, hcs, hds⟩ := id hs
  unfold Builtin.Slice.sliceApplied Builtin.Slice.sliceFields
  refine wpAny_bind (wpAny_bind (wpAny_field hos hds (x := v0) rfl (wpAny_bind (wpAny_field hos hds (x := .none) rfl (wpAny_bind (wpAny_field hos hds (x := v2) rfl (wpAny_pure ?_)))))))
  refine wpAny_bind (HT.slicePart_ p2 ?_)
  show wpAny _ _ (if ((2 : Int) == 0) = true then _ else _) _ _ s
  rw [if_neg (by decide)]
  refine wpAny_bind (HT.slicePart_ p0 (wpAny_bind (HT.slicePart_ .none (wpAny_bind (wpAny_pure ?_)))))
  show wpAny _ _ (match Builtin.Slice.sliceAdjust (some 0) none 2 ((3 : Nat) : Int) with | (lo, hi) => pure (lo, (2 : Int), Builtin.Slice.slicePlaces lo hi 2)) _ _ s
  have e : Builtin.Slice.sliceAdjust (some 0) none 2 ((3 : Nat) : Int) = (0, 3) := by decide
  rw [e]
  have e2 : Builtin.Slice.slicePlaces 0 3 2 = 2 := by decide
  show wpAny _ _ (pure ((0 : Int), (2 : Int), Builtin.Slice.slicePlaces 0 3 2)) _ _ s
  rw [e2]
  exact wpAny_pure h
theorem getItem_tuple_02 {t sl : Addr} {a b c v0 v2 : Value} {Q : Value → Shared → Prop} (ht : IsTup s.heap t [a, b, c].toArray) (hs : s.heap.IsSliceOf sl v0 .none v2) (p0 : IsPart v0 (some 0)) (p2 : IsPart v2 (some 2))
    (h : Q (.ref s.heap.objs.size) { s with heap := s.heap.push { cls := .type "tuple", data := .seq [a, c].toArray } }) : wpAny (model prog w) A (getItem (.ref t) (.ref sl)) Q E s := by
  have htake : sizeOk (.seq [a, c].toArray) := by
    show (2 : Nat) ≤ sizeLine
    rw [sizeLine_eq]
    decide
  obtain ⟨os, hos, hcs, hds⟩ := id hs
  have hTs : s.TypeIs (.ref sl) "slice" := ⟨os, hos, hcs⟩
  unfold getItem
  try with_reducible refine wpAny_holding ?_
  first | refine wpAny_bind (wpAny_pure ?_) | skip
  refine wpAny_bind (wpAny_sequenceKey ht.typeIs (by decide) ?_)
  refine wpAny_bind (wpAny_callSpecial?_slot (name := Str.ofString "__getitem__") ht.typeIs PyProof.Rows.slot_tuple_getitem
    (wpAny_call_entry PyProof.Rows.slot_tuple_getitem ht.typeIs entry_tuple_getitem ?_ (args_tuple_getitem _ _)))
  show wpAny _ _ (Builtin.Tuple.tupleItemsOf (.ref t) >>= _) _ _ s
  refine wpAny_bind (tupleItemsOf_ ht ?_)
  refine wpAny_bind (wpAny_typeOf hTs ?_)
  rw [if_pos (by decide)]
  refine wpAny_bind (sliceApplied_02 hs p0 p2 ?_)
  show wpAny _ _ (if (((0 : Int)) == 0 && (2 : Int) == 1 && (2 : Nat) == 3) = true then _ else _) _ _ s
  rw [if_neg (by decide)]
  have e : ((List.range 2).filterMap fun (k : Nat) => [a, b, c].toArray[((0 : Int) + (k : Int) * 2).toNat]?).toArray = [a, c].toArray := rfl
  rw [e]
  first
    | exact wpAny_bind (m := Builtin.Tuple.tupleExact _) (wpAny_newObj_type (wpAny_pure ⟨_, rfl, wpAny_pure h⟩) htake)
    | exact wpAny_bind (m := Builtin.Tuple.tupleExact _) (wpAny_newObj_type (wpAny_bind (wpAny_pure (wpAny_pure ⟨_, rfl, wpAny_pure h⟩))) htake)
    | exact wpAny_bind (wpAny_bind (m := Builtin.Tuple.tupleExact _) (wpAny_newObj_type (wpAny_pure (wpAny_pure ⟨_, rfl, wpAny_pure h⟩)) htake))
    | exact wpAny_bind (wpAny_bind (m := Builtin.Tuple.tupleExact _) (wpAny_newObj_type (wpAny_pure ⟨_, rfl, wpAny_pure h⟩) htake))
end
section
variable {X : Cx} {G : GX} {W : WX} {cf : Cf} {a : Expr} {ca : Ex}
/-- what is read off one value -/
theorem se_of1 {b : Bf} {e' : Expr} {R : V → Hp → VK → Prop} (hK : X.K = G.K) (hr : PE X e' (fun σ H Q => tE G W (ev cf ca) σ H fun v H1 => R v H1 Q)) (hR : ∀ v H Q, rPn X.K (bltD b) [v] H Q → R v H Q) : SE X G W e' (ev cf (.blt b (.cons ca .nil))) := by
  refine hr.le fun σ H Q h => ?_
  have h2 := tA_blt hK h
  obtain ⟨E, n, R, P⟩ := h2
  refine ⟨E, n, R, (post_bnd.mp P).mono fun o n1 _ P1 v H1 er => ?_⟩
  have P2 : Post G W E n σ H (fun os n' => ∀ vs H', AR G.K E n σ H os n' vs H' → rPn X.K (bltD b) vs H' Q) (.ok [o] n1) := P1
  have an : ∀ q, orP E (tmps [o] [v]) q → orP E (tmp o v) q := fun q z => by
    rcases z with z | z | z
    · exact .inl z
    · exact .inr z
    · exact z.elim
  exact hR v H1 Q (P2 [v] H1 ⟨er.rel.weak an, .cons (er.op.anti fun q z => z.imp (an q) id) .nil, er.step, fun q z => z.elim (er.new q) False.elim, ⟨fun _ _ z => z, trivial⟩⟩)
theorem vals3 {x1 x2 x3 : V} {its : List Value} (r : Vals [x1, x2, x3] its) : ∃ y1 y2 y3, its = [y1, y2, y3] ∧ RelV x1 y1 ∧ RelV x2 y2 ∧ RelV x3 y3 := by
  cases r with
  | cons a r => cases r with
    | cons b r => cases r with
      | cons c r => cases r; exact ⟨_, _, _, rfl, a, b, c⟩
def tEven (K : PySem.W.Frag) (te : TE) : TE := fun σ H Q => te σ H fun x H1 => ∃ a x1 x2 x3, x = .ref a ∧ SqT K H1 a [x1, x2, x3] ∧ NewT H1 [x1, x3] Q
theorem pe_even {e : Expr} {te : TE} {k k2 : Nat} {p1 p2 p3 pos : Pos} (he : PE X e te) : PE X (.Subscript e (.Slice (some (.Constant (.int 0) k p1)) none (some (.Constant (.int 2) k2 p2)) p3) pos) (tEven X.K te) := by
  refine ⟨fun pins s σ H Q I h => ?_⟩
  refine Subscript_ (thn (he.run pins s σ H _ I h) fun v s1 ⟨x, H1, I1, r1, q1⟩ => ?_)
  obtain ⟨a, x1, x2, x3, ex, hx, q⟩ := q1
  subst ex
  cases r1
  have h0 : PO X (some (.Constant (.int 0) k p1)) (tPart (tC (.int 0))) := po_some pe_int
  have hst : PO X (some (.Constant (.int 2) k2 p2)) (tPart (tC (.int 2))) := po_some pe_int
  refine wpAny_Slice (thn (h0.run pins s1 σ H1 (fun o H2 => o = some 0 ∧ H2 = H1) I1 ⟨0, rfl, rfl, rfl⟩) fun vl s2 ⟨l, H2, I2, pl, el, e2⟩ => ?_)
  subst el e2
  refine thn (po_none.run pins s2 σ H2 (fun o H3 => o = none ∧ H3 = H2) I2 ⟨rfl, rfl⟩) fun vu s3 ⟨u, H3, I3, pu, eu, e3⟩ => ?_
  subst eu e3
  refine thn (hst.run pins s3 σ H3 (fun o H4 => o = some 2 ∧ H4 = H3) I3 ⟨2, rfl, rfl, rfl⟩) fun vs s4 ⟨o, H4, I4, ps, eo, e4⟩ => ?_
  subst eo e4
  cases pu
  have I5 : Inv X pins σ H4 { s4 with heap := s4.heap.push { cls := .type "slice", data := .fields #[vl, .none, vs] } } := I4.kept (t' := s4.toks) fun b ob q => Heap.get?_push_of_some _ q
  obtain ⟨its, r, ht, hz⟩ := I5.tuple hx
  obtain ⟨y1, y2, y3, rfl, r1, r2, r3⟩ := vals3 r
  show wpAny (model X.prog X.w) X.A (subscriptTail e (.Slice (some (.Constant (.int 0) k p1)) none (some (.Constant (.int 2) k2 p2)) p3) (.ref a) (.ref s4.heap.objs.size)) (EP X pins σ Q) X.xe { s4 with heap := s4.heap.push { cls := .type "slice", data := .fields #[vl, .none, vs] } }
  refine tail_any (ops := [.ref a, .ref s4.heap.objs.size]) ht.typeIs (PyProof.Rows.slot_tuple_getitem.lookup) ?_ (by with_unfolding_all rfl)
  refine getItem_tuple_02 ht (Heap.IsSliceOf.new _ vl .none vs) pl ps ?_
  exact laidT I5 (.cons r1 (.cons r3 .nil)) (by simp only [List.length_cons, List.length_nil, sizeLine_eq]; omega) q
theorem rvs3 {K : PySem.W.Frag} {H : Hp} {O : Addr → Prop} {xs : List V} {a b c : PyData} (h : RVs K H O xs [a, b, c]) : ∃ x1 x2 x3, xs = [x1, x2, x3] ∧ RV K H O x1 a ∧ RV K H O x3 c := by
  cases h with
  | cons a1 h => cases h with
    | cons a2 h => cases h with
      | cons a3 h => cases h; exact ⟨_, _, _, rfl, a1, a3⟩
theorem se_even {k k2 : Nat} {p1 p2 p3 pos : Pos} (hK : X.K = G.K) (ha : SE X G W a (ev cf ca)) : SE X G W (.Subscript a (.Slice (some (.Constant (.int 0) k p1)) none (some (.Constant (.int 2) k2 p2)) p3) pos) (ev cf (.blt .even (.cons ca .nil))) := by
  refine se_of1 hK (pe_even ha) fun v H Q ⟨O, ds, o, lo, h, ef, hq⟩ => ?_
  change bevenD ds = some o at ef
  unfold bevenD at ef
  split at ef <;> try (cases ef; done)
  cases ef
  obtain ⟨x, e, hx⟩ := h.one
  cases e
  obtain ⟨p, xs, rfl, h1, h2⟩ := hx.tup
  obtain ⟨x1, x2, x3, rfl, a1, a3⟩ := rvs3 h2
  exact ⟨p, x1, x2, x3, rfl, h1.sqT, PR.newT lo (.cons a1 (.cons a3 .nil)) hq⟩
theorem se_rev {k : Nat} {p1 p2 p3 pos : Pos} (hK : X.K = G.K) (ha : SE X G W a (ev cf ca)) : SE X G W (.Subscript a (.Slice none none (some (.UnaryOp .USub (.Constant (.int 1) k p1) p2)) p3) pos) (ev cf (.blt .rev (.cons ca .nil))) := by
  refine se_of1 hK (pe_revL ha) fun v H Q ⟨O, ds, o, lo, h, ef, hq⟩ => ?_
  change brevD ds = some o at ef
  unfold brevD at ef
  split at ef <;> try (cases ef; done)
  cases ef
  obtain ⟨x, e, hx⟩ := h.one
  cases e
  obtain ⟨p, xs, rfl, h1, h2⟩ := hx.list
  exact ⟨p, xs, rfl, .inl (.inl h1), fun q hp => hq _ _ (PR.lst lo h2.reverse hp)⟩
end
end DM
set_option Elab.async false
set_option linter.all false
set_option maxRecDepth 100000
/-! DMD: {} and {k: v}. -/
namespace DM
open PySem PySem.Spec PyProof.Rows L2
theorem Mut.d (ks : List Int) (xs : List V) (h : ks.length = xs.length) (hd : ∃ ds : List PyData, xs.length = ds.length) : Mut (.dK (KZ ks xs)) := ⟨xs, [], _, .dct h⟩
theorem Rel.writeM {K : PySem.W.Frag} {E : Addr → Prop} {n : En} {σ : L2.St} {H : Hp} {D : Addr} {u : HO} (R : Rel K E n σ H) (hD : E D) (hu : Mut u) : Rel K E n σ (upd H D u) := by
  have p : Pres H (OE E n σ) (upd H D u) (OE E n σ) := pres_write (.inl hD)
  refine ⟨R.len, fun j d h => ?_, fun j l p' d h => ?_, R.apart, R.noexc, fun a h => ?_⟩
  · obtain ⟨v, q1, q2⟩ := R.val j d h
    exact ⟨v, q1, q2.pres R.lo p⟩
  · obtain ⟨a, q1, ⟨u0, xs, ds, q4, q5, q6⟩, q3⟩ := R.own j l p' d h
    exact ⟨a, q1, ⟨u0, xs, ds, q4, by rw [upd_ne fun z => q3 (by rw [z]; exact hD)]; exact q5, q6.pres R.lo p⟩, q3⟩
  · by_cases z : a = D
    · exact ⟨u, by rw [z, upd_same], hu⟩
    · obtain ⟨xs, q, mut0⟩ := R.ext a h
      exact ⟨xs, by rw [upd_ne z]; exact q, mut0⟩
section
variable {X : Cx} {G : GX} {W : WX} {cf : Cf} {a b : Expr} {ca cb : Ex}
/-- {} -/
theorem se_dict0 {pos : Pos} : SE X G W (.Dict [] [] pos) (ev cf (.blt .dict0 .nil)) := by
  refine pe_dnewK.le fun σ H Q ⟨E, n, R, P⟩ p hp => ?_
  refine P (.ref p) _ (ER.fin R .refl (fun _ z => z) ⟨same_upd hp, ⟨p, rfl, _, [], [], Cel.dct (ks := []) rfl, upd_same, .nil⟩, fun _ q => ?_⟩)
  cases q
  exact hp
/-- {k: v} -/
theorem se_dict1 {pos : Pos} (ha : SE X G W a (ev cf ca)) (hb : SE X G W b (ev cf cb)) : SE X G W (.Dict [some a] [b] pos) (ev cf (.blt .dict1 (.cons ca (.cons cb .nil)))) := by
  refine (pe_disp (pps_cons ha hb pps_nil) rfl rfl (by simp) (by simp)).le fun σ H Q ⟨E, n, R, P⟩ p hp => ?_
  have e : ev cf (.blt .dict1 (.cons ca (.cons cb .nil))) n = bnd (ev cf ca) (fun x => bnd (ev cf cb) fun y => bnd (rds [x, y]) fun ds => opt (bltD .dict1 ds)) n := two_form n
  rw [e] at P
  have s0 : Step n σ H n σ (upd H p (.dK [])) := Step.same (same_upd hp)
  have R0 : Rel G.K (orP E fun a => a = p) n σ (upd H p (.dK [])) := R.grow (same_upd hp) (fun a q => q.imp id fun z => by rw [z]; exact hp) fun a q hn => by
    rcases q with q | q
    · obtain ⟨xs, e, mut0⟩ := R.ext a q
      rw [e] at hn
      cases hn
    · exact ⟨.dK [], by rw [q, upd_same], [], [], _, Cel.dct (ks := []) rfl⟩
  refine ⟨_, n, R0, (post_bnd.mp P).imp (fun x n1 _ P2 v H1 er => ?_) fun c pl n' z => z.later s0 fun a q => .inl q⟩
  refine ⟨_, n1, er.rel, (post_bnd.mp P2).imp (fun y n2 _ P3 u H2 er2 => ?_) fun c pl n' z => z.later (s0.trans er.step) fun a q => .inl (.inl q)⟩
  obtain ⟨ds, rs, P4⟩ := post_rds er2.rel (.cons (er.first er2) (.cons er2.op .nil)) P3
  obtain ⟨o, eo, P5⟩ := post_opt1 P4
  change bdict1D ds = some o at eo
  unfold bdict1D at eo
  split at eo
  · rename_i k d
    split at eo
    · rename_i hf
      cases eo
      obtain ⟨v', u', e', h1, h2⟩ := rs.two
      cases e'
      cases h1.int
      have rv := RT.rv_nl h2 (fun ds z => by rw [z] at hf; simp [flat] at hf) (fun ds z => by rw [z] at hf; simp [flat] at hf)
      have p1 : H1 p = some (.dK []) := er.step.fr p _ upd_same (own_not R0 (.inr rfl))
      have p2 : H2 p = some (.dK []) := er2.step.fr p _ p1 (own_not er.rel (.inl (.inr rfl)))
      have hE : orP (orP (orP E fun a => a = p) (tmp x (.int k))) (tmp y u) p := .inl (.inl (.inr rfl))
      have hM : Mut (.dK (KZ [k] [u])) := ⟨[u], [d], _, Cel.dct rfl⟩
      have S := s0.trans (er.step.trans er2.step)
      refine ⟨p2, [(Sum.inl k, u)], rfl, by simp, ?_⟩
      show Q (.ref p) (upd H2 p (.dK (KZ [k] [u])))
      refine P5 (.ref p) _ ⟨(er2.rel.writeM hE hM).weak fun a q => ?_, ⟨p, rfl, _, [u], [d], Cel.dct (ks := [k]) rfl, upd_same, .cons (RV.flat hf (RV.pres er2.rel.lo (pres_write (.inl hE)) rv)) .nil⟩, ⟨fun a o e m => ?_, fun a e => ?_, S.mu, S.ex, S.pr, S.lk⟩, fun a q => ?_⟩
      · rcases q with q | q
        · exact .inl (.inl (.inl q))
        · cases q; exact hE
      · rw [upd_ne (ne_of_none e hp)]
        exact S.fr a o e m
      · by_cases z : a = p
        · rw [z, upd_same]; exact fun q => by cases q
        · rw [upd_ne z]; exact S.tr a e
      · cases q
        exact hp
    · cases eo
  · cases eo
end
end DM
set_option Elab.async false
set_option linter.all false
set_option maxRecDepth 100000
/-! DM17: from Python's text to code: expressions. -/
namespace DM
open PySem PySem.Spec PyProof.Rows L2

/-- what is known of the names: the def's (and its blocks'), the scope, which cells are its own, defs, constants, built-ins that nobody rebinds -/
structure CI where
  N : List Str
  sc : Scope
  fn : Str → Bool
  F : List (Str × Nat × List Bool)
  C : List (Str × PyData)
  B : List Str
def ixOf (x : Str) : List Str → Nat → Option Nat
  | [], _ => none
  | y :: ys, k => if y = x then some k else ixOf x ys (k + 1)
theorem ixOf_ok {x : Str} : ∀ {N : List Str} {k i : Nat}, ixOf x N k = some i → k ≤ i ∧ N[i - k]? = some x
  | [], _, _, h => by cases h
  | y :: ys, k, i, h => by
    unfold ixOf at h
    split at h
    · rename_i e
      cases h
      exact ⟨Nat.le_refl _, by rw [Nat.sub_self, e]; rfl⟩
    · obtain ⟨h1, h2⟩ := ixOf_ok h
      refine ⟨by omega, ?_⟩
      have e : i - k = (i - (k + 1)) + 1 := by omega
      rw [e]
      exact h2
def visI (I : CI) (x : Str) : Option Nat := match I.sc.names.lookup x with
  | some .local => ixOf x I.N 0
  | some .cell => ixOf x I.N 0
  | some .free => ixOf x I.N 0
  | _ => none
def locI (I : CI) (x : Str) : Option Nat := match I.sc.names.lookup x with
  | some .local => ixOf x I.N 0
  | some .cell => if I.fn x then ixOf x I.N 0 else none
  | _ => none
def isLoc (I : CI) (x : Str) : Bool := match I.sc.names.lookup x with
  | some .local => true
  | _ => false
def glI (I : CI) (x : Str) : Bool := match I.sc.names.lookup x with
  | some .globalImplicit => true
  | _ => false
def bltI (I : CI) (x : Str) : Bool := glI I x && decide (x ∈ I.B)
def badName (x : Str) : Bool := (x == ("__debug__" : Str)) || (x == ("__classdict__" : Str)) || (x == ("__name__" : Str))
def cName (I : CI) (x : Str) : Option Ex := if badName x then none else match visI I x with
  | some i => some (.var i)
  | none => if glI I x then (I.C.lookup x).map .con else none
def cConst : Const → Option Ex
  | .none => some (.con .none)
  | .bool b => some (.con (.bool b))
  | .int i => some (.con (.int i))
  | .str x => some (.con (.str x))
  | _ => none
def bTab : List (Str × Bf) := [("len", .len), ("abs", .abs), ("sum", .sum), ("max", .max), ("min", .min), ("sorted", .sorted), ("tuple", .tuple), ("list", .list), ("int", .int), ("all", .all), ("any", .any)]
def tyTab : List (Str × Ty) := [("int", .int), ("bool", .bool), ("str", .str), ("tuple", .tuple), ("list", .list)]
def mTab : List (Str × Mf) := [("append", .append), ("index", .index), ("pop", .popAt), ("remove", .remove), ("insert", .insert), ("count", .count)]
def mTab0 : List (Str × Mf) := [("pop", .pop), ("reverse", .reverse)]
def okArgs (es : List Expr) : Bool := es.all (fun e => !isStar e) && decide (es.length < 30)
def isTuE : Expr → Bool
  | .Tuple _ _ _ => true
  | _ => false
mutual
def cTg (I : CI) : Nat → Expr → Option Tg
  | 0, _ => none
  | k + 1, e0 => match e0 with
    | .Name x _ => (locI I x).map .nm
    | .Tuple es _ _ => if es.all (fun e => !isStar e) then (cTgs I k es).map .tu else none
    | _ => none
def cTgs (I : CI) : Nat → List Expr → Option Tg
  | 0, _ => none
  | k + 1, e0 => match e0 with
    | [] => some .nil
    | e :: es => match cTg I k e, cTgs I k es with
        | some t, some ts => some (.cons t ts)
        | _, _ => none
end
def ownOf (N : List Str) (scope : Scope) : List (Str × Nat) := scope.names.filterMap fun y => match y.2 with
  | .local => (ixOf y.1 N 0).map fun i => (y.1, i)
  | .cell => (ixOf y.1 N 0).map fun i => (y.1, i)
  | _ => none
def blkI (I : CI) (scope : Scope) : CI := { I with sc := relS scope I.sc, fn := fun x => scope.names.lookup x == some .cell }
def subN (is js : List Nat) : Bool := is.all fun i => decide (i ∈ js)
def noneEx : Option Ex → Option Ex → (Ex → Ex → Ex) → Option Ex
  | some a, some b, f => some (f a b)
  | _, _, _ => none
def isRange (I : CI) : Expr → Bool
  | .Call (.Name y _) [_] [] _ => decide (y = "range") && bltI I y
  | .Call (.Name y _) [_, _] [] _ => decide (y = "range") && bltI I y
  | _ => false
/-- a slice with a step -/
def cSt : Option Expr → Option Expr → Expr → Option Bf
  | none, none, .UnaryOp .USub (.Constant (.int i) _ _) _ => if i = 1 then some .rev else none
  | some (.Constant (.int i) _ _), none, .Constant (.int j) _ _ => if i = 0 ∧ j = 2 then some .even else none
  | _, _, _ => none
mutual
def cE (I : CI) : Nat → Expr → Option Ex
  | 0, _ => none
  | k + 1, e0 => match e0 with
    | .Name x _ => cName I x
    | .Constant c _ _ => cConst c
    | .BinOp a op b _ => noneEx (cE I k a) (cE I k b) (.bin op)
    | .UnaryOp .USub a _ => (cE I k a).map .neg
    | .UnaryOp .Not a _ => (cE I k a).map .not
    | .BoolOp op [a] _ => cE I k a
    | .BoolOp .And (a :: b :: rest) p => noneEx (cE I k a) (cE I k (.BoolOp .And (b :: rest) p)) .and
    | .BoolOp .Or (a :: b :: rest) p => noneEx (cE I k a) (cE I k (.BoolOp .Or (b :: rest) p)) .or
    | .Compare a [op] [b] _ => if notSetB b then noneEx (cE I k a) (cE I k b) (.cmp op) else none
    | .Compare a [op, op'] [b, c] _ => if notSetB c then (match cE I k a, cE I k b, cE I k c with
        | some ca, some cb, some cc => some (.cmp2 op op' ca cb cc)
        | _, _, _ => none) else none
    | .IfExp c a b _ => match cT I k c, cE I k a, cE I k b with
        | some cc, some ca, some cb => some (.ife cc ca cb)
        | _, _, _ => none
    | .Tuple es _ _ => if es.all (fun e => !isStar e) then (cEs I k es).map .tup else none
    | .List es _ => if es.all (fun e => !isStar e) then (cEs I k es).map .lst else none
    | .Subscript a (.Slice lo hi none _) _ => match cE I k a, cO I k lo, cO I k hi with
        | some ca, some cl, some ch => some (.slc ca cl ch)
        | _, _, _ => none
    | .Subscript a (.Slice lo hi (some st) _) _ => match cSt lo hi st with
        | some b => (cE I k a).map fun ca => .blt b (.cons ca .nil)
        | none => none
    | .Subscript a i _ => if notSlice i then noneEx (cE I k a) (cE I k i) .idx else none
    | .Call (.Name x _) (a :: es) [] _ => if badName x then none else if okArgs (a :: es) then cCall I k x a es else none
    | .Call (.Attribute o name ap) (a :: es) [] p => if notSuper o && okArgs (a :: es) && (ap.endLine == p.line) then (match mTab.lookup name with
        | some m => noneEx (cE I k o) (cEs I k (a :: es)) (.mth m)
        | none => none) else none
    | .Call (.Attribute o name ap) [] [] p => if notSuper o && (ap.endLine == p.line) then (match mTab0.lookup name with
        | some m => (cE I k o).map fun co => .mth m co .nil
        | none => none) else none
    | .ListComp elt [⟨tg, it, ifs, a⟩] scope _ => if decide (a = 0) && !isSet it && blkC I.N I.sc scope (ownOf I.N scope) then (match cTg (blkI I scope) k tg, cIt I k (isTuE tg) it, cTs (blkI I scope) k ifs, cE (blkI I scope) k elt with
        | some t, some (ik, its), some cifs, some celt => if subN (tgN t) ((ownOf I.N scope).map (·.2)) then some (.comp ((ownOf I.N scope).map (·.2)) t ik its cifs celt) else none
        | _, _, _, _ => none) else none
    | .ListComp elt [⟨tg, it, ifs, a⟩, ⟨tg1, it1, ifs1, a1⟩] scope _ => if decide (a = 0) && decide (a1 = 0) && !isSet it && !isSet it1 && blkC I.N I.sc scope (ownOf I.N scope) then (match cTg (blkI I scope) k tg, cIt I k (isTuE tg) it, cTs (blkI I scope) k ifs, cE (blkI I scope) k elt with
        | some t, some (ik, its), some cifs, some celt => match cTg (blkI I scope) k tg1, cIt (blkI I scope) k (isTuE tg1) it1, cTs (blkI I scope) k ifs1 with
          | some t1, some (ik1, its1), some cifs1 => if subN (tgN t) ((ownOf I.N scope).map (·.2)) && subN (tgN t1) ((ownOf I.N scope).map (·.2)) then some (.comp2 ((ownOf I.N scope).map (·.2)) (tgN t1) t ik its cifs t1 ik1 its1 cifs1 celt) else none
          | _, _, _ => none
        | _, _, _, _ => none) else none
    | .Dict [] [] _ => some (.blt .dict0 .nil)
    | .Dict [some a] [b] _ => noneEx (cE I k a) (cE I k b) fun ca cb => .blt .dict1 (.cons ca (.cons cb .nil))
    | _ => none
/-- a call of a name -/
def cCall (I : CI) : Nat → Str → Expr → List Expr → Option Ex
  | 0, _, _, _ => none
  | k + 1, x, a, es => match I.F.lookup x with
    | some (fi, ios) => if glI I x && decide (ios.length = es.length + 1) then (cEs I k (a :: es)).map (.call fi ios) else none
    | none => if bltI I x then (if decide (x = "isinstance") then (match es with
        | [.Name y _] => if bltI I y && !badName y then (match tyTab.lookup y with
          | some t => (cE I k a).map fun ca => .blt (.isa t) (.cons ca .nil)
          | none => none) else none
        | _ => none)
      else if (decide (x = "list") && es.isEmpty) && isRange I a then (cRg I k a).map fun r => .blt .listr (.cons r.1 (.cons r.2 .nil))
      else if (decide (x = "tuple") && es.isEmpty) && isRange I a then (cRg I k a).map fun r => .blt .tupler (.cons r.1 (.cons r.2 .nil))
      else match bTab.lookup x with
        | some b => (cEs I k (a :: es)).map (.blt b)
        | none => none) else none
/-- range(..)'s ends -/
def cRg (I : CI) : Nat → Expr → Option (Ex × Ex)
  | 0, _ => none
  | k + 1, e0 => match e0 with
    | .Call (.Name _ _) [a] [] _ => if isStar a then none else (cE I k a).map fun c => (.con (.int 0), c)
    | .Call (.Name _ _) [a, b] [] _ => if isStar a || isStar b then none else match cE I k a, cE I k b with
        | some ca, some cb => some (ca, cb)
        | _, _ => none
    | _ => none
def cEs (I : CI) : Nat → List Expr → Option Ex
  | 0, _ => none
  | k + 1, e0 => match e0 with
    | [] => some .nil
    | e :: es => if isStar e then none else noneEx (cE I k e) (cEs I k es) .cons
/-- a test -/
def cT (I : CI) : Nat → Expr → Option Ex
  | 0, _ => none
  | k + 1, e0 => match e0 with
    | .UnaryOp .Not a _ => (cT I k a).map .not
    | .BoolOp op [a] _ => cT I k a
    | .BoolOp .And (a :: b :: rest) p => noneEx (cT I k a) (cT I k (.BoolOp .And (b :: rest) p)) .and
    | .BoolOp .Or (a :: b :: rest) p => noneEx (cT I k a) (cT I k (.BoolOp .Or (b :: rest) p)) .or
    | .Compare a [op] [b] _ => if notSetB b then noneEx (cE I k a) (cE I k b) (.cmp op) else none
    | .Compare a [op, op'] [b, c] _ => if notSetB c then (match cE I k a, cE I k b, cE I k c with
        | some ca, some cb, some cc => some (.cmp2 op op' ca cb cc)
        | _, _, _ => none) else none
    | .UnaryOp _ _ _ => none
    | .BoolOp _ _ _ => none
    | .IfExp _ _ _ _ => none
    | .Compare _ _ _ _ => none
    | e => cE I k e
/-- a slice's bound -/
def cO (I : CI) : Nat → Option Expr → Option Ex
  | 0, _ => none
  | k + 1, e0 => match e0 with
    | none => some .nil
    | some e => (cE I k e).bind fun c => match c with
        | .nil => none
        | c => some c
/-- the tests of a clause -/
def cTs (I : CI) : Nat → List Expr → Option Ex
  | 0, _ => none
  | k + 1, e0 => match e0 with
    | [] => some .nil
    | [c] => (cT I k c).map fun cc => .cons cc .nil
    | _ => none
/-- what is walked -/
def cIt (I : CI) : Nat → Bool → Expr → Option (Ik × Ex)
  | 0, _, _ => none
  | k + 1, tu, e0 => match e0 with
    | .Call (.Name x p) (a :: es) [] q => if bltI I x && decide (x = "range") then (if (a :: es).all (fun e => !isStar e) then (match es with
            | [] => (cEs I k [a]).map fun c => (.range1, c)
            | [b] => (cEs I k [a, b]).map fun c => (.range2, c)
            | [b, b2] => (cEs I k [a, b, b2]).map fun c => (.range3, c)
            | _ => none) else none)
          else if bltI I x && decide (x = "enumerate") then (if tu && es.isEmpty && !isStar a then (cE I k a).map fun c => (.enum, .cons c .nil) else none)
          else if bltI I x && decide (x = "reversed") then (if es.isEmpty && !isStar a then (cE I k a).map fun c => (.rev, .cons c .nil) else none)
          else (cE I k (.Call (.Name x p) (a :: es) [] q)).map fun c => (.plain, .cons c .nil)
    | e => (cE I k e).map fun c => (.plain, .cons c .nil)
end
end DM
set_option Elab.async false
set_option linter.all false
set_option maxRecDepth 100000
/-! DM18: from Python's text to code: statements. -/
namespace DM
open PySem PySem.Spec PyProof.Rows L2
/-- which names are stored from the right: as the machine tells -/
def swN (I : CI) (ts vs : List Expr) : Option (Option (List Str)) :=
  if (!(ts.length == 2 || ts.length == 3) || vs.length != ts.length) = true then some none
  else if (vs.any fun | .Starred .. => true | _ => false) = true then some none
  else
    let line := (ts.head?.map (·.pos.line)).getD 0
    let names := ts.filterMap fun
      | .Name id pos => if I.sc.names.lookup id == some .local && pos.line == line then some id else none
      | _ => none
    if (names.length != ts.length || names.eraseDups.length != names.length) = true then some none
    else if vs.all (foldedForSure 8) = true then some none
    else if vs.all (constantsAlone 8) = true then none
    else some (some names)
def nameIx (I : CI) : List Expr → Option (List Nat)
  | [] => some []
  | .Name x _ :: r => match locI I x, nameIx I r with
    | some i, some is => some (i :: is)
    | _, _ => none
  | _ => none
def cPar (I : CI) (k : Nat) (ts vs : List Expr) : Option Sm := match swN I ts vs with
  | none => none
  | some (some _) => match ts with
    | [.Name x _, .Name y _] => match locI I x, locI I y, cEs I k vs with
      | some i, some j, some c => if i ≠ j then some (.par [i, j] c) else none
      | _, _, _ => none
    | [.Name x _, .Name y _, .Name z _] => match locI I x, locI I y, locI I z, cEs I k vs with
      | some i, some j, some l, some c => if i ≠ j ∧ i ≠ l ∧ j ≠ l then some (.par [i, j, l] c) else none
      | _, _, _, _ => none
    | _ => none
  | some none => match ts with
    | [.Subscript a i _, .Subscript b j _] => if notSlice i && notSlice j && decide (vs.length = 2) then (match cE I k a, cE I k i, cE I k b, cE I k j with
      | some ca, some ci, some cb, some cj => (cEs I k vs).map fun c => .swp ca ci cb cj c
      | _, _, _, _ => none) else none
    | ts => match nameIx I ts with
      | some is => if is.length ≤ 9 ∧ vs.all (fun e => !isStar e) then (cEs I k vs).map (.par is) else none
      | none => none
def isTup : Expr → Bool
  | .Tuple _ _ _ => true
  | _ => false
mutual
def cS (I : CI) : Nat → Stmt → Option Sm
  | 0, _ => none
  | k + 1, e0 => match e0 with
    | .Pass _ => some .pass
    | .Break _ => some .brk
    | .Continue _ => some .cont
    | .Expr (.Constant (.str _) _ _) _ => some .pass
    | .Expr e _ => if isComp e then none else (cE I k e).map .exp
    | .Return none _ => some .retN
    | .Return (some e) _ => (cE I k e).map .ret
    | .If c a b _ => match cT I k c, cSs I k a, cSs I k b with
        | some cc, some sa, some sb => some (.ife cc sa sb)
        | _, _, _ => none
    | .While c b [] _ => match cT I k c, cSs I k b with
        | some cc, some sb => some (.whl cc sb)
        | _, _ => none
    | .For tg it b [] _ => if isSet it then none else match cTg I k tg, cIt I k (isTuE tg) it, cSs I k b with
        | some t, some (ik, its), some sb => some (.forr t ik its sb)
        | _, _, _ => none
    | .Assign [.Name x _] e _ => match locI I x, cE I k e with
        | some i, some c => some (.asg i c)
        | _, _ => none
    | .Assign [.Tuple ts _ _] (.Tuple vs _ _) _ => if ts.all (fun e => !isStar e) then cPar I k ts vs else none
    | .Assign [.Tuple ts kk p] e _ => match cTg I k (.Tuple ts kk p), cE I k e with
        | some t, some c => some (.asgT t c)
        | _, _ => none
    | .Assign [.Subscript a i _] e _ => if notSlice i then (match cE I k a, cE I k i, cE I k e with
        | some ca, some ci, some c => some (.setI ca ci c)
        | _, _, _ => none) else none
    | .Assign [.Subscript a i _, .Subscript b j _] e _ => if notSlice i && notSlice j then (match cE I k a, cE I k i, cE I k b, cE I k j, cE I k e with
        | some ca, some ci, some cb, some cj, some c => some (.setII ca ci cb cj c)
        | _, _, _, _, _ => none) else none
    | .AugAssign (.Name x _) op e _ => match locI I x, cE I k e with
        | some i, some c => some (.aug op i c)
        | _, _ => none
    | .AugAssign (.Subscript a i _) op e _ => if notSlice i then (match cE I k a, cE I k i, cE I k e with
        | some ca, some ci, some c => some (.augS op ca ci c)
        | _, _, _ => none) else none
    | _ => none
def cSs (I : CI) : Nat → List Stmt → Option Sm
  | 0, _ => none
  | k + 1, e0 => match e0 with
    | [] => some .nil
    | s :: r => match cS I k s, cSs I k r with
        | some .pass, some b => some b
        | some a, some b => some (.seq a b)
        | _, _ => none
end
end DM
set_option Elab.async false
set_option linter.all false
set_option maxRecDepth 100000
/-! DM19: the code of an expression is right. -/
namespace DM
open PySem PySem.Spec PyProof.Rows L2

/-- the context and what is told of it -/
structure Good (X : Cx) (G : GX) (W : WX) (cf : Cf) (I : CI) : Prop where
  K : X.K = G.K
  calm : X.calm = true
  nd : X.N.Nodup
  N : X.N = I.N
  sc : X.env.scope = I.sc
  kind : X.env.scope.kind = .function
  fn : X.fn = I.fn
  hu : X.A.units + 64 < cLine
  tk : Takes X W
  mgb : ∀ x ∈ I.B, X.mg x = none
  fns : ∀ x fi ios, I.F.lookup x = some (fi, ios) → ∃ (k : Nat) (f : Addr) (fd : FuncData) (ps : List Str), Room k X.A ∧ X.mg x = some (.ref f) ∧ PySem.W.keepIn X.K (.ref f) = true ∧ Binds X.K fd ps [] ∧ FnOk X.prog X.w X.K X.mg X.base (L2.CX X.prog X.w) k f fd ps (spF G (cf fi) ps.length) ∧ ios.length = ps.length
  cst : ∀ x d, I.C.lookup x = some d → ∃ u v, X.mg x = some u ∧ RelV v u ∧ ∀ H O, RV G.K H O v d
section
variable {X : Cx} {G : GX} {W : WX} {cf : Cf} {I : CI}
theorem Good.vis (g : Good X G W cf I) {x : Str} {i : Nat} (h : visI I x = some i) : X.N[i]? = some x ∧ Vis X.env.scope x := by
  unfold visI at h
  rw [g.N, g.sc]
  split at h
  · exact ⟨(ixOf_ok h).2, .inl ‹_›⟩
  · exact ⟨(ixOf_ok h).2, .inr (.inl ‹_›)⟩
  · exact ⟨(ixOf_ok h).2, .inr (.inr ‹_›)⟩
  · cases h
theorem Good.loc (g : Good X G W cf I) {x : Str} {i : Nat} (h : locI I x = some i) : X.N[i]? = some x ∧ Loc X.env.scope x ∧ (X.fn x = true ∨ X.env.scope.names.lookup x = some .local) := by
  unfold locI at h
  rw [g.N, g.sc, g.fn]
  split at h
  · exact ⟨(ixOf_ok h).2, .inl ‹_›, .inr ‹_›⟩
  · split at h
    · exact ⟨(ixOf_ok h).2, .inr ‹_›, .inl ‹_›⟩
    · cases h
  · cases h
theorem Good.gl (g : Good X G W cf I) {x : Str} (h : glI I x = true) : Gl X x := by
  unfold glI at h
  split at h
  · show X.env.scope.names.lookup x = _
    rw [g.sc]
    assumption
  · cases h
theorem Good.blt (g : Good X G W cf I) {x : Str} (h : bltI I x = true) : Gl X x ∧ X.mg x = none := by
  unfold bltI at h
  simp only [Bool.and_eq_true, decide_eq_true_eq] at h
  exact ⟨g.gl h.1, g.mgb x h.2⟩
theorem bad_no {x : Str} (h : badName x = false) : (x == ("__debug__" : Str)) = false ∧ (x == ("__classdict__" : Str)) = false ∧ x ≠ "__name__" := by
  unfold badName at h
  simp only [Bool.or_eq_false_iff] at h
  exact ⟨h.1.1, h.1.2, fun e => by have := h.2; rw [e] at this; simp at this⟩
theorem Good.blk (g : Good X G W cf I) {scope : Scope} {own : List (Str × Nat)} (ok : BlkOk I.N I.sc scope own) (s : Shared) (H : Hp) (C : Addr) (cl : List (Str × Addr)) (fp : List Addr) : Good (blkX X scope s H C cl fp) G WF cf (blkI I scope) where
  K := g.K
  calm := g.calm
  nd := g.nd
  N := g.N
  sc := by
    show relS scope X.env.scope = relS scope I.sc
    rw [g.sc]
  kind := ok.kind
  fn := rfl
  hu := g.hu
  tk := takesF
  mgb := g.mgb
  fns := g.fns
  cst := g.cst
end

/-- the parts of a comprehension -/
inductive CompOk (X : Cx) (G : GX) (W : WX) (cf : Cf) : Expr → Ex → Prop
  | one {elt tg iter : Expr} {ifs : List Expr} {scope : Scope} {own : List (Str × Nat)} {pos : Pos} {t : Tg} {k : Ik} {its cifs celt : Ex} (hi : PI X tg iter (tI G W (isTu t) (bnd (evs cf its) (walk k)))) (ok : BlkOk X.N X.env.scope scope own) (ho : ∀ i ∈ tgN t, i ∈ own.map (·.2))
    (hg : ∀ s H C cl fp, PG (blkX X scope s H C cl fp) tg (tG G.K t)) (ht : ∀ s H C cl fp, PTs (blkX X scope s H C cl fp) ifs (tT G WF (tst cf cifs))) (he : ∀ s H C cl fp, SE (blkX X scope s H C cl fp) G WF elt (ev cf celt)) (hs : ∀ x, foldedSetIterable iter X.env x = pure x) :
    CompOk X G W cf (.ListComp elt [⟨tg, iter, ifs, 0⟩] scope pos) (.comp (own.map (·.2)) t k its cifs celt)
  | two {elt tg iter tg1 iter1 : Expr} {ifs ifs1 : List Expr} {scope : Scope} {own : List (Str × Nat)} {pos : Pos} {t t1 : Tg} {k k1 : Ik} {its cifs its1 cifs1 celt : Ex} {own1 : List Nat} (hi : PI X tg iter (tI G W (isTu t) (bnd (evs cf its) (walk k)))) (ok : BlkOk X.N X.env.scope scope own) (ho : ∀ i ∈ tgN t, i ∈ own.map (·.2)) (ho1 : ∀ i ∈ tgN t1, i ∈ own1) (hv : ∀ i ∈ own1, i ∈ own.map (·.2))
    (hg : ∀ s H C cl fp, PG (blkX X scope s H C cl fp) tg (tG G.K t)) (ht : ∀ s H C cl fp, PTs (blkX X scope s H C cl fp) ifs (tT G WF (tst cf cifs)))
    (hi1 : ∀ s H C cl fp, PI (blkX X scope s H C cl fp) tg1 iter1 (tI G WF (isTu t1) (bnd (evs cf its1) (walk k1)))) (hg1 : ∀ s H C cl fp, PG (blkX X scope s H C cl fp) tg1 (tG G.K t1)) (ht1 : ∀ s H C cl fp, PTs (blkX X scope s H C cl fp) ifs1 (tT G WF (tst cf cifs1)))
    (he : ∀ s H C cl fp, SE (blkX X scope s H C cl fp) G WF elt (ev cf celt)) (hs : ∀ x, foldedSetIterable iter X.env x = pure x) (hs1 : ∀ env x, foldedSetIterable iter1 env x = pure x) :
    CompOk X G W cf (.ListComp elt [⟨tg, iter, ifs, 0⟩, ⟨tg1, iter1, ifs1, 0⟩] scope pos) (.comp2 (own.map (·.2)) own1 t k its cifs t1 k1 its1 cifs1 celt)
section
variable {X : Cx} {G : GX} {W : WX} {cf : Cf} {I : CI}
theorem CompOk.se (g : Good X G W cf I) {e : Expr} {c : Ex} (h : CompOk X G W cf e c) : SE X G W e (ev cf c) := by
  cases h with
  | one hi ok ho hg ht he hs => exact se_comp g.calm g.nd hi ok ho hg ht he hs
  | two hi ok ho ho1 hv hg ht hi1 hg1 ht1 he hs hs1 => exact se_comp2 g.calm g.nd hi ok ho ho1 hv hg ht hi1 hg1 ht1 he hs hs1
theorem CompOk.asg (g : Good X G W cf I) {e : Expr} {c : Ex} {i : Nat} {y : Str} {py spos : Pos} (hy : X.N[i]? = some y) (hyl : X.env.scope.names.lookup y = some .local) (h : CompOk X G W cf e c) (hsw : swapsWith e (some (.Name y py)) spos.line X.env = pure true) : PS X (.Assign [.Name y py] e spos) (tS G W (exec cf (.asg i c))) := by
  cases h with
  | one hi ok ho hg ht he hs => exact ss_asgC g.calm g.nd hy hyl hsw hi ok ho hg ht he hs
  | two hi ok ho ho1 hv hg ht hi1 hg1 ht1 he hs hs1 => exact ss_asgC2 g.calm g.nd hy hyl hsw hi ok ho ho1 hv hg ht hi1 hg1 ht1 he hs hs1

/-! ### targets -/
theorem map_some {α β : Type} {o : Option α} {f : α → β} {b : β} (h : o.map f = some b) : ∃ a, o = some a ∧ b = f a := by
  cases o with
  | none => cases h
  | some a => exact ⟨a, rfl, (Option.some.inj h).symm⟩
theorem noneEx_ok {a b : Option Ex} {f : Ex → Ex → Ex} {c : Ex} (h : noneEx a b f = some c) : ∃ x y, a = some x ∧ b = some y ∧ c = f x y := by
  cases a with
  | none => cases b <;> cases h
  | some x =>
    cases b with
    | none => cases h
    | some y => exact ⟨x, y, rfl, rfl, (Option.some.inj h).symm⟩
theorem all_no {e : Expr} {es : List Expr} (h : (e :: es).all (fun e => !isStar e) = true) : isStar e = false ∧ es.all (fun e => !isStar e) = true := by
  simp only [List.all_cons, Bool.and_eq_true] at h
  exact ⟨by simpa using h.1, h.2⟩
theorem cTgs_len : ∀ {k : Nat} {es : List Expr} {t : Tg}, cTgs I k es = some t → tgLen t = es.length
  | 0, _, t, h => nomatch (show (none : Option Tg) = some t from h)
  | k + 1, [], t, h => by
    simp only [cTgs] at h
    cases h
    rfl
  | k + 1, e :: es, t, h => by
    simp only [cTgs] at h
    split at h
    · rename_i t1 ts h1 h2
      cases h
      show tgLen ts + 1 = _
      rw [cTgs_len h2, List.length_cons]
    · cases h
theorem tg_sound : ∀ (k : Nat), (∀ {e : Expr} {t : Tg} {X : Cx} {W : WX} {I : CI}, Good X G W cf I → cTg I k e = some t → PG X e (tG G.K t) ∧ isTu t = isTuE e) ∧ (∀ {es : List Expr} {t : Tg} {X : Cx} {W : WX} {I : CI}, Good X G W cf I → es.all (fun e => !isStar e) = true → cTgs I k es = some t → PGs X es (tGs G.K t))
  | 0 => ⟨fun {e t X W I} _ h => (nomatch (show (none : Option Tg) = some t from h)), fun {es t X W I} _ _ h => (nomatch (show (none : Option Tg) = some t from h))⟩
  | k + 1 => by
    obtain ⟨i1, i2⟩ := tg_sound k
    refine ⟨fun {e t X W I} g h => ?_, fun {es t X W I} g ha h => ?_⟩
    · simp only [cTg] at h
      split at h
      · rename_i x p
        obtain ⟨i, hl, rfl⟩ := map_some h
        obtain ⟨h1, h2, h3⟩ := g.loc hl
        rw [← g.K]
        exact ⟨sg_name g.nd h1 h2 h3, rfl⟩
      · rename_i es kk p
        split at h
        · rename_i ha
          obtain ⟨ts, hl, rfl⟩ := map_some h
          obtain ⟨l1, l2⟩ := assign_len (env := X.env) ha
          have := i2 g ha hl
          rw [← g.K] at this ⊢
          exact ⟨sg_tup g.calm this (by rw [l1, cTgs_len hl]) l2, rfl⟩
        · cases h
      · cases h
    · simp only [cTgs] at h
      split at h
      · cases h
        rw [← g.K]
        exact sgs_nil
      · rename_i e es
        split at h
        · rename_i t1 ts h1 h2
          cases h
          obtain ⟨hs, ha2⟩ := all_no ha
          have p1 := (i1 g h1).1
          have p2 := i2 g ha2 h2
          rw [← g.K] at p1 p2 ⊢
          exact sgs_cons p1 p2 (by rw [assignEach_cons hs]; rfl)
        · cases h

/-- a slice's bound -/
def mO (cf : Cf) : Ex → M (Option Int)
  | .nil => ret none
  | c => bnd (ev cf c) asInt
theorem mO_eq {c : Ex} : mO cf c = (match c with | .nil => ret none | _ => bnd (ev cf c) asInt) := by cases c <;> rfl
/-! ### all of an expression -/
structure SoundAt (G : GX) (cf : Cf) (k : Nat) : Prop where
  e : ∀ {X : Cx} {W : WX} {I : CI}, Good X G W cf I → ∀ {e : Expr} {c : Ex}, cE I k e = some c → SE X G W e (ev cf c)
  call : ∀ {X : Cx} {W : WX} {I : CI}, Good X G W cf I → ∀ {x : Str} {a : Expr} {es : List Expr} {c : Ex} {p pos : Pos}, badName x = false → (a :: es).all (fun e => !isStar e) = true → cCall I k x a es = some c → SE X G W (.Call (.Name x p) (a :: es) [] pos) (ev cf c)
  rg : ∀ {X : Cx} {W : WX} {I : CI}, Good X G W cf I → ∀ {e : Expr} {r : Ex × Ex}, isRange I e = true → cRg I k e = some r → RgE X G W cf e r.1 r.2
  es : ∀ {X : Cx} {W : WX} {I : CI}, Good X G W cf I → ∀ {es : List Expr} {c : Ex}, cEs I k es = some c → SA X G W es (evs cf c)
  t : ∀ {X : Cx} {W : WX} {I : CI}, Good X G W cf I → ∀ {e : Expr} {c : Ex}, cT I k e = some c → ST X G W e (bnd (ev cf c) truM)
  w : ∀ {X : Cx} {W : WX} {I : CI}, Good X G W cf I → ∀ {op : BoolOp} {vs : List Expr} {p : Pos} {c : Ex}, cT I k (.BoolOp op vs p) = some c → SW X G W (.BoolOp op vs p) (bnd (ev cf c) truM)
  o : ∀ {X : Cx} {W : WX} {I : CI}, Good X G W cf I → ∀ {e : Option Expr} {c : Ex}, cO I k e = some c → PO X e (tO G W (mO cf c))
  ts : ∀ {X : Cx} {W : WX} {I : CI}, Good X G W cf I → ∀ {es : List Expr} {c : Ex}, cTs I k es = some c → PTs X es (tT G W (tst cf c))
  it : ∀ {X : Cx} {W : WX} {I : CI}, Good X G W cf I → ∀ {tg e : Expr} {r : Ik × Ex}, cIt I k (isTuE tg) e = some r → PI X tg e (tI G W (isTuE tg) (bnd (evs cf r.2) (walk r.1)))
  comp : ∀ {X : Cx} {W : WX} {I : CI}, Good X G W cf I → ∀ {elt : Expr} {gens : List Comprehension} {scope : Scope} {pos : Pos} {c : Ex}, cE I k (.ListComp elt gens scope pos) = some c → CompOk X G W cf (.ListComp elt gens scope pos) c
theorem sound0 : SoundAt G cf 0 where
  e := fun {X W I} _ {e c} h => nomatch (show (none : Option Ex) = some c from h)
  call := fun {X W I} _ {x a es c p pos} _ _ h => nomatch (show (none : Option Ex) = some c from h)
  rg := fun {X W I} _ {e r} _ h => nomatch (show (none : Option (Ex × Ex)) = some r from h)
  es := fun {X W I} _ {es c} h => nomatch (show (none : Option Ex) = some c from h)
  t := fun {X W I} _ {e c} h => nomatch (show (none : Option Ex) = some c from h)
  w := fun {X W I} _ {op vs p c} h => nomatch (show (none : Option Ex) = some c from h)
  o := fun {X W I} _ {e c} h => nomatch (show (none : Option Ex) = some c from h)
  ts := fun {X W I} _ {es c} h => nomatch (show (none : Option Ex) = some c from h)
  it := fun {X W I} _ {tg e r} h => nomatch (show (none : Option (Ik × Ex)) = some r from h)
  comp := fun {X W I} _ {elt gens scope pos c} h => nomatch (show (none : Option Ex) = some c from h)
end
section
variable {G : GX} {cf : Cf} {k : Nat}
theorem name_sound {X : Cx} {W : WX} {I : CI} (g : Good X G W cf I) {x : Str} {c : Ex} {p : Pos} (h : cName I x = some c) : SE X G W (.Name x p) (ev cf c) := by
  unfold cName at h
  split at h
  · cases h
  · rename_i hb
    obtain ⟨b1, b2, b3⟩ := bad_no (by simpa using hb)
    split at h
    · rename_i i hi
      cases h
      obtain ⟨h1, h2⟩ := g.vis hi
      exact se_var h1 h2 b1 b2
    · split at h
      · rename_i hg
        obtain ⟨d, hd, rfl⟩ := map_some h
        obtain ⟨u, v, h1, h2, h3⟩ := g.cst x d hd
        exact se_glob (g.gl hg) h1 h2 h3 b1
      · cases h
theorem const_sound {X : Cx} {W : WX} {cst : Const} {c : Ex} {j : Nat} {p : Pos} (h : cConst cst = some c) : SE X G W (.Constant cst j p) (ev cf c) := by
  cases cst <;> first
    | (cases h; exact se_none)
    | (cases h; exact se_bool)
    | (cases h; exact se_int)
    | (cases h; exact se_str)
    | cases h
theorem es_sound (S : SoundAt G cf k) {X : Cx} {W : WX} {I : CI} (g : Good X G W cf I) {es : List Expr} {c : Ex} (h : cEs I (k + 1) es = some c) : SA X G W es (evs cf c) := by
  simp only [cEs] at h
  split at h
  · cases h; exact sa_nil
  · rename_i e es
    split at h
    · cases h
    · rename_i hs
      obtain ⟨a, b, h1, h2, rfl⟩ := noneEx_ok h
      exact sa_cons (S.e g h1) (S.es g h2) (starEach_cons (by simpa using hs))
theorem o_sound (S : SoundAt G cf k) {X : Cx} {W : WX} {I : CI} (g : Good X G W cf I) {e : Option Expr} {c : Ex} (h : cO I (k + 1) e = some c) : PO X e (tO G W (mO cf c)) := by
  simp only [cO] at h
  split at h
  · cases h; exact so_none
  · rename_i e
    generalize hc : cE I k e = r at h
    cases r with
    | none => cases h
    | some c' =>
      have p := S.e g hc
      cases c' <;> first
        | cases h; done
        | (cases h; exact so_some p)
theorem ts_sound (S : SoundAt G cf k) {X : Cx} {W : WX} {I : CI} (g : Good X G W cf I) {es : List Expr} {c : Ex} (h : cTs I (k + 1) es = some c) : PTs X es (tT G W (tst cf c)) := by
  simp only [cTs] at h
  split at h
  · cases h; exact pts_none
  · obtain ⟨cc, h1, rfl⟩ := map_some h
    exact pts_some (S.t g h1)
  · cases h
theorem rg_sound (S : SoundAt G cf k) {X : Cx} {W : WX} {I : CI} (g : Good X G W cf I) {e : Expr} {r : Ex × Ex} (hr : isRange I e = true) (h : cRg I (k + 1) e = some r) : RgE X G W cf e r.1 r.2 := by
  simp only [cRg] at h
  split at h
  · rename_i y p a q
    simp only [isRange, Bool.and_eq_true, decide_eq_true_eq] at hr
    obtain ⟨rfl, hb⟩ := hr
    obtain ⟨b1, b2⟩ := g.blt hb
    split at h
    · cases h
    · rename_i hs
      obtain ⟨c, h1, rfl⟩ := map_some h
      exact .one b1 b2 (S.e g h1) (starEach_cons (by simpa using hs))
  · rename_i y p a b q
    simp only [isRange, Bool.and_eq_true, decide_eq_true_eq] at hr
    obtain ⟨rfl, hb⟩ := hr
    obtain ⟨b1, b2⟩ := g.blt hb
    split at h
    · cases h
    · rename_i hs
      simp only [Bool.or_eq_true, not_or] at hs
      have s1 : isStar a = false := by simpa using hs.1
      have s2 : isStar b = false := by simpa using hs.2
      split at h
      · rename_i ca cb h1 h2
        cases h
        exact .two b1 b2 (S.e g h1) (S.e g h2) (starEach_cons s1) (starEach_cons s2) (noStar_any (by simp [s2]))
      · cases h
  · cases h
theorem blt_sound {X : Cx} {W : WX} {I : CI} (g : Good X G W cf I) {x : Str} {a : Expr} {es : List Expr} {c : Ex} {p pos : Pos} {b : Bf} (hg : Gl X x) (hm : X.mg x = none) (hn : badName x = false) (hp : (a :: es).all (fun e => !isStar e) = true) (ht : bTab.lookup x = some b) (h : SA X G W (a :: es) (evs cf c)) : SE X G W (.Call (.Name x p) (a :: es) [] pos) (ev cf (.blt b c)) := by
  obtain ⟨b1, _, b3⟩ := bad_no hn
  have mem : (x, b) ∈ bTab := PySem.mem_of_lookup ht
  simp only [bTab, List.mem_cons, List.not_mem_nil, or_false, Prod.mk.injEq] at mem
  rcases mem with ⟨rfl, rfl⟩ | ⟨rfl, rfl⟩ | ⟨rfl, rfl⟩ | ⟨rfl, rfl⟩ | ⟨rfl, rfl⟩ | ⟨rfl, rfl⟩ | ⟨rfl, rfl⟩ | ⟨rfl, rfl⟩ | ⟨rfl, rfl⟩ | ⟨rfl, rfl⟩ | ⟨rfl, rfl⟩
  · exact se_callB g.K ⟨hg, hm, by decide +kernel, b3, b1⟩ cb_len h (plain_of hp)
  · exact se_callB g.K ⟨hg, hm, by decide +kernel, b3, b1⟩ cb_abs h (plain_of hp)
  · exact se_callB g.K ⟨hg, hm, by decide +kernel, b3, b1⟩ (cb_sum g.calm) h (plain_of hp)
  · exact se_callB g.K ⟨hg, hm, by decide +kernel, b3, b1⟩ (cb_max g.calm g.hu) h (plain_of hp)
  · exact se_callB g.K ⟨hg, hm, by decide +kernel, b3, b1⟩ (cb_min g.calm g.hu) h (plain_of hp)
  · exact se_callB g.K ⟨hg, hm, by decide +kernel, b3, b1⟩ (cb_sorted g.hu) h (plain_of hp)
  · exact se_callTy g.K ⟨hg, hm, by decide +kernel, b3, b1⟩ cb_tuple h (plain_of hp)
  · exact se_callTy g.K ⟨hg, hm, by decide +kernel, b3, b1⟩ (cb_list g.calm) h (plain_of hp)
  · exact se_callTy g.K ⟨hg, hm, by decide +kernel, b3, b1⟩ cb_int h (plain_of hp)
  · exact se_callB g.K ⟨hg, hm, by decide +kernel, b3, b1⟩ (cb_all g.calm) h (plain_of hp)
  · exact se_callB g.K ⟨hg, hm, by decide +kernel, b3, b1⟩ (cb_any g.calm) h (plain_of hp)
theorem ty_boot {y : Str} {t : Ty} (h : tyTab.lookup y = some t) : bootBuiltins y = some (.type (tyName t)) := by
  have mem : (y, t) ∈ tyTab := PySem.mem_of_lookup h
  simp only [tyTab, List.mem_cons, List.not_mem_nil, or_false, Prod.mk.injEq] at mem
  rcases mem with ⟨rfl, rfl⟩ | ⟨rfl, rfl⟩ | ⟨rfl, rfl⟩ | ⟨rfl, rfl⟩ | ⟨rfl, rfl⟩ <;> decide +kernel
theorem call_sound (S : SoundAt G cf k) {X : Cx} {W : WX} {I : CI} (g : Good X G W cf I) {x : Str} {a : Expr} {es : List Expr} {c : Ex} {p pos : Pos} (hn : badName x = false) (hp : (a :: es).all (fun e => !isStar e) = true) (h : cCall I (k + 1) x a es = some c) : SE X G W (.Call (.Name x p) (a :: es) [] pos) (ev cf c) := by
  obtain ⟨b1, _, b3⟩ := bad_no hn
  simp only [cCall] at h
  split at h
  · rename_i fi ios hl
    split at h
    · rename_i hc
      simp only [Bool.and_eq_true, decide_eq_true_eq] at hc
      obtain ⟨ca, h1, rfl⟩ := map_some h
      obtain ⟨k', f, fd, ps, r, m, kp, bd, F, il⟩ := g.fns x fi ios hl
      exact se_call g.tk F r (g.gl hc.1) m kp bd b1 (plain_of hp) (S.es g h1) il
    · cases h
  · split at h
    · rename_i hb
      obtain ⟨g1, g2⟩ := g.blt hb
      split at h
      · rename_i hx
        have hx : x = "isinstance" := by simpa using hx
        subst hx
        split at h
        · rename_i y q
          split at h
          · rename_i hc
            simp only [Bool.and_eq_true, Bool.not_eq_true'] at hc
            obtain ⟨y1, y2⟩ := g.blt hc.1
            obtain ⟨c1, _, c3⟩ := bad_no hc.2
            split at h
            · rename_i t ht
              obtain ⟨ca, h1, rfl⟩ := map_some h
              exact se_isa g.K ⟨g1, g2, by decide +kernel, b3, b1⟩ ⟨y1, y2, ty_boot ht, c3, c1⟩ (S.e g h1) (plain_of hp) (starEach_cons rfl)
            · cases h
          · cases h
        · cases h
      · split at h
        · rename_i hx
          simp only [Bool.and_eq_true, decide_eq_true_eq] at hx
          obtain ⟨⟨rfl, he⟩, hr⟩ := hx
          have he : es = [] := by simpa using he
          subst he
          obtain ⟨r, h1, rfl⟩ := map_some h
          exact se_listRg g.calm g1 g2 (S.rg g hr h1) (starEach_cons (all_no hp).1)
        · split at h
          · rename_i hx
            simp only [Bool.and_eq_true, decide_eq_true_eq] at hx
            obtain ⟨⟨rfl, he⟩, hr⟩ := hx
            have he : es = [] := by simpa using he
            subst he
            obtain ⟨r, h1, rfl⟩ := map_some h
            exact se_tupRg g.calm g1 g2 (S.rg g hr h1) (starEach_cons (all_no hp).1)
          · split at h
            · rename_i b ht
              obtain ⟨ca, h1, rfl⟩ := map_some h
              exact blt_sound g g1 g2 hn hp ht (S.es g h1)
            · cases h
    · cases h
end
end DM
set_option Elab.async false
set_option linter.all false
set_option maxRecDepth 100000
/-! DM20: the code of an expression is right. -/
namespace DM
open PySem PySem.Spec PyProof.Rows L2
section
variable {G : GX} {cf : Cf} {k : Nat}
theorem it_sound (S : SoundAt G cf k) {X : Cx} {W : WX} {I : CI} (g : Good X G W cf I) {tg e : Expr} {r : Ik × Ex} (h : cIt I (k + 1) (isTuE tg) e = some r) : PI X tg e (tI G W (isTuE tg) (bnd (evs cf r.2) (walk r.1))) := by
  simp only [cIt] at h
  split at h
  · rename_i x p a es q
    split at h
    · rename_i hx
      simp only [Bool.and_eq_true, decide_eq_true_eq] at hx
      obtain ⟨hb, rfl⟩ := hx
      obtain ⟨b1, b2⟩ := g.blt hb
      split at h
      · rename_i hp
        obtain ⟨s1, hp2⟩ := all_no hp
        split at h
        · obtain ⟨c, h1, rfl⟩ := map_some h
          exact tI_tu (si_range1 b1 b2 (S.es g h1) (starEach_cons s1))
        · rename_i b
          obtain ⟨s2, _⟩ := all_no hp2
          obtain ⟨c, h1, rfl⟩ := map_some h
          exact tI_tu (si_range2 b1 b2 (S.es g h1) (by rw [starEach_cons s1, starEach_cons s2]; rfl) (starEach_cons s2))
        · obtain ⟨c, h1, rfl⟩ := map_some h
          exact tI_tu (si_range3 b1 b2 (S.es g h1) (plain_of hp))
        · cases h
      · cases h
    · split at h
      · rename_i hx
        simp only [Bool.and_eq_true, decide_eq_true_eq] at hx
        obtain ⟨hb, rfl⟩ := hx
        obtain ⟨b1, b2⟩ := g.blt hb
        split at h
        · rename_i hc
          simp only [Bool.and_eq_true, Bool.not_eq_true'] at hc
          obtain ⟨⟨ht, he⟩, hs⟩ := hc
          have he : es = [] := by simpa using he
          subst he
          obtain ⟨c, h1, rfl⟩ := map_some h
          rw [ht]
          cases tg <;> first
            | cases ht; done
            | exact si_enum g.K b1 b2 (S.e g h1) (starEach_cons hs) (starEach_cons hs)
        · cases h
      · split at h
        · rename_i hx
          simp only [Bool.and_eq_true, decide_eq_true_eq] at hx
          obtain ⟨hb, rfl⟩ := hx
          obtain ⟨b1, b2⟩ := g.blt hb
          split at h
          · rename_i hc
            simp only [Bool.and_eq_true, Bool.not_eq_true'] at hc
            obtain ⟨he, hs⟩ := hc
            have he : es = [] := by simpa using he
            subst he
            obtain ⟨c, h1, rfl⟩ := map_some h
            exact tI_tu (si_rev g.K b1 b2 (S.e g h1) (starEach_cons hs))
          · cases h
        · obtain ⟨c, h1, rfl⟩ := map_some h
          exact tI_tu (si_plain g.K (S.e g h1))
  · obtain ⟨c, h1, rfl⟩ := map_some h
    exact tI_tu (si_plain g.K (S.e g h1))
theorem cTg_tu {I : CI} {e : Expr} {t : Tg} (h : cTg I k e = some t) : isTu t = isTuE e := by
  cases k with
  | zero => exact nomatch (show (none : Option Tg) = some t from h)
  | succ k =>
    simp only [cTg] at h
    split at h
    · obtain ⟨i, _, rfl⟩ := map_some h; rfl
    · split at h
      · obtain ⟨i, _, rfl⟩ := map_some h; rfl
      · cases h
    · cases h
theorem subN_ok {is js : List Nat} (h : subN is js = true) : ∀ i ∈ is, i ∈ js := fun i hi => by
  have := List.all_eq_true.mp h i hi
  exact of_decide_eq_true this
theorem comp_sound (S : SoundAt G cf k) {X : Cx} {W : WX} {I : CI} (g : Good X G W cf I) {elt : Expr} {gens : List Comprehension} {scope : Scope} {pos : Pos} {c : Ex} (h : cE I (k + 1) (.ListComp elt gens scope pos) = some c) : CompOk X G W cf (.ListComp elt gens scope pos) c := by
  cases gens with
  | nil => simp only [cE] at h; cases h
  | cons g1 r1 =>
    obtain ⟨tg, it, ifs, a⟩ := g1
    cases r1 with
    | nil =>
      simp only [cE] at h
      split at h
      · rename_i hc
        simp only [Bool.and_eq_true, Bool.not_eq_true', decide_eq_true_eq] at hc
        obtain ⟨⟨rfl, hs⟩, hb⟩ := hc
        have ok := blkOk_by hb
        split at h
        · rename_i t ik its cifs celt h1 h2 h3 h4
          split at h
          · rename_i hsub
            cases h
            have gb := fun s H C cl fp => g.blk ok s H C cl fp
            have tu : isTu t = isTuE tg := cTg_tu h1
            refine .one ?_ (by rw [g.N, g.sc]; exact ok) (subN_ok hsub) (fun s H C cl fp => ((tg_sound k).1 (gb s H C cl fp) h1).1) (fun s H C cl fp => S.ts (gb s H C cl fp) h3) (fun s H C cl fp => S.e (gb s H C cl fp) h4) (folded_of hs)
            rw [tu]
            exact S.it g h2
          · cases h
        · cases h
      · cases h
    | cons g2 r2 =>
      obtain ⟨tg1, it1, ifs1, a1⟩ := g2
      cases r2 with
      | nil =>
        simp only [cE] at h
        split at h
        · rename_i hc
          simp only [Bool.and_eq_true, Bool.not_eq_true', decide_eq_true_eq] at hc
          obtain ⟨⟨⟨⟨rfl, rfl⟩, hs⟩, hs1⟩, hb⟩ := hc
          have ok := blkOk_by hb
          split at h
          · rename_i t ik its cifs celt h1 h2 h3 h4
            split at h
            · rename_i t1 ik1 its1 cifs1 h5 h6 h7
              split at h
              · rename_i hsub
                cases h
                simp only [Bool.and_eq_true] at hsub
                have gb := fun s H C cl fp => g.blk ok s H C cl fp
                have tu : isTu t = isTuE tg := cTg_tu h1
                have tu1 : isTu t1 = isTuE tg1 := cTg_tu h5
                refine .two ?_ (by rw [g.N, g.sc]; exact ok) (subN_ok hsub.1) (fun _ z => z) (subN_ok hsub.2) (fun s H C cl fp => ((tg_sound k).1 (gb s H C cl fp) h1).1) (fun s H C cl fp => S.ts (gb s H C cl fp) h3) (fun s H C cl fp => ?_) (fun s H C cl fp => ((tg_sound k).1 (gb s H C cl fp) h5).1) (fun s H C cl fp => S.ts (gb s H C cl fp) h7) (fun s H C cl fp => S.e (gb s H C cl fp) h4) (folded_of hs) (fun _ => folded_of hs1)
                · rw [tu]
                  exact S.it g h2
                · rw [tu1]
                  exact S.it (gb s H C cl fp) h6
              · cases h
            · cases h
          · cases h
        · cases h
      | cons g3 r3 => simp only [cE] at h; cases h
theorem meth_sound (S : SoundAt G cf k) {X : Cx} {W : WX} {I : CI} (g : Good X G W cf I) {o a : Expr} {es : List Expr} {name : Str} {ap p : Pos} {m : Mf} {c : Ex} (h1 : notSuper o = true) (h2 : okArgs (a :: es) = true) (h3 : (ap.endLine == p.line) = true) (hm : mTab.lookup name = some m) (h : noneEx (cE I k o) (cEs I k (a :: es)) (.mth m) = some c) : SE X G W (.Call (.Attribute o name ap) (a :: es) [] p) (ev cf c) := by
  unfold okArgs at h2
  simp only [Bool.and_eq_true, decide_eq_true_eq] at h2
  have mk := fun nm => mok_of (X := X) (name := nm) (apos := ap) (cpos := p) h1 h2.1 h2.2 h3
  obtain ⟨x, y, q1, q2, rfl⟩ := noneEx_ok h
  have po := S.e g q1
  have pa := S.es g q2
  have mem : (name, m) ∈ mTab := PySem.mem_of_lookup hm
  simp only [mTab, List.mem_cons, List.not_mem_nil, or_false, Prod.mk.injEq] at mem
  rcases mem with ⟨rfl, rfl⟩ | ⟨rfl, rfl⟩ | ⟨rfl, rfl⟩ | ⟨rfl, rfl⟩ | ⟨rfl, rfl⟩ | ⟨rfl, rfl⟩
  · exact se_append g.K po pa (mk _)
  · exact se_index g.K g.hu po pa (mk _)
  · exact se_popAt g.K po pa (mk _)
  · exact se_remove g.K g.hu po pa (mk _)
  · exact se_insert g.K po pa (mk _)
  · exact se_count g.K g.hu po pa (mk _)
theorem meth0_sound (S : SoundAt G cf k) {X : Cx} {W : WX} {I : CI} (g : Good X G W cf I) {o : Expr} {name : Str} {ap p : Pos} {m : Mf} {co : Ex} (h1 : notSuper o = true) (h3 : (ap.endLine == p.line) = true) (hm : mTab0.lookup name = some m) (h : cE I k o = some co) : SE X G W (.Call (.Attribute o name ap) [] [] p) (ev cf (.mth m co .nil)) := by
  have mem : (name, m) ∈ mTab0 := PySem.mem_of_lookup hm
  simp only [mTab0, List.mem_cons, List.not_mem_nil, or_false, Prod.mk.injEq] at mem
  rcases mem with ⟨rfl, rfl⟩ | ⟨rfl, rfl⟩
  · exact se_pop g.K (S.e g h) ⟨attr_base h1, h3⟩
  · exact se_reverse g.K (S.e g h) ⟨attr_base h1, h3⟩
theorem step_sound {X : Cx} {W : WX} {a : Expr} {ca : Ex} {lo hi : Option Expr} {st : Expr} {b : Bf} {p2 pos : Pos} (hK : X.K = G.K) (h : cSt lo hi st = some b) (ha : SE X G W a (ev cf ca)) : SE X G W (.Subscript a (.Slice lo hi (some st) p2) pos) (ev cf (.blt b (.cons ca .nil))) := by
  unfold cSt at h
  split at h
  · split at h
    · rename_i e
      subst e
      cases h
      exact se_rev hK ha
    · cases h
  · split at h
    · rename_i e
      obtain ⟨rfl, rfl⟩ := e
      cases h
      exact se_even hK ha
    · cases h
  · cases h
theorem e_sound (S : SoundAt G cf k) {X : Cx} {W : WX} {I : CI} (g : Good X G W cf I) {e : Expr} {c : Ex} (h : cE I (k + 1) e = some c) : SE X G W e (ev cf c) := by
  have h0 := h
  simp only [cE] at h
  split at h
  · exact name_sound g h
  · exact const_sound h
  · obtain ⟨x, y, q1, q2, rfl⟩ := noneEx_ok h
    exact se_bin g.K (S.e g q1) (S.e g q2)
  · obtain ⟨x, q1, rfl⟩ := map_some h
    exact se_neg g.K (S.e g q1)
  · obtain ⟨x, q1, rfl⟩ := map_some h
    exact se_not g.K (S.e g q1)
  · exact se_one (S.e g h)
  · obtain ⟨x, y, q1, q2, rfl⟩ := noneEx_ok h
    exact se_and g.K (S.e g q1) (S.e g q2)
  · obtain ⟨x, y, q1, q2, rfl⟩ := noneEx_ok h
    exact se_or g.K (S.e g q1) (S.e g q2)
  · split at h
    · rename_i hs
      obtain ⟨x, y, q1, q2, rfl⟩ := noneEx_ok h
      exact se_cmp g.K g.hu (S.e g q1) (S.e g q2) (marks_of hs)
    · cases h
  · split at h
    · rename_i hs
      split at h
      · rename_i ca cb cc q1 q2 q3
        cases h
        exact se_cmp2 g.K g.hu (S.e g q1) (S.e g q2) (S.e g q3) (show behindInMarks _ _ = false from marks_of hs)
      · cases h
    · cases h
  · split at h
    · rename_i cc ca cb q1 q2 q3
      cases h
      exact se_ife (S.t g q1) (S.e g q2) (S.e g q3)
    · cases h
  · split at h
    · obtain ⟨x, q1, rfl⟩ := map_some h
      exact se_tup (S.es g q1)
    · cases h
  · split at h
    · obtain ⟨x, q1, rfl⟩ := map_some h
      exact se_lst (S.es g q1)
    · cases h
  · split at h
    · rename_i ca cl ch q1 q2 q3
      cases h
      have l := S.o g q2
      have r := S.o g q3
      rw [mO_eq] at l r
      exact se_slc g.K (S.e g q1) l r
    · cases h
  · split at h
    · rename_i b hb
      obtain ⟨ca, q1, rfl⟩ := map_some h
      exact step_sound g.K hb (S.e g q1)
    · cases h
  · split at h
    · rename_i hs
      obtain ⟨x, y, q1, q2, rfl⟩ := noneEx_ok h
      exact se_idx g.K g.hu (S.e g q1) (S.e g q2) (plainIx_of hs)
    · cases h
  · split at h
    · cases h
    · rename_i hb
      split at h
      · rename_i ha
        unfold okArgs at ha
        simp only [Bool.and_eq_true, decide_eq_true_eq] at ha
        exact S.call g (by simpa using hb) ha.1 h
      · cases h
  · split at h
    · rename_i hc
      simp only [Bool.and_eq_true] at hc
      split at h
      · rename_i m hm
        exact meth_sound S g hc.1.1 hc.1.2 hc.2 hm h
      · cases h
    · cases h
  · split at h
    · rename_i hc
      simp only [Bool.and_eq_true] at hc
      split at h
      · rename_i m hm
        obtain ⟨co, q, rfl⟩ := map_some h
        exact meth0_sound S g hc.1 hc.2 hm q
      · cases h
    · cases h
  · exact (comp_sound S g h0).se g
  · exact (comp_sound S g h0).se g
  · cases h
    exact se_dict0
  · obtain ⟨x, y, q1, q2, rfl⟩ := noneEx_ok h
    exact se_dict1 (S.e g q1) (S.e g q2)
  · cases h
theorem w_sound (S : SoundAt G cf k) {X : Cx} {W : WX} {I : CI} (g : Good X G W cf I) {op : BoolOp} {vs : List Expr} {p : Pos} {c : Ex} (h : cT I (k + 1) (.BoolOp op vs p) = some c) : SW X G W (.BoolOp op vs p) (bnd (ev cf c) truM) := by
  cases vs with
  | nil => cases op <;> (simp only [cT] at h; cases h)
  | cons a r =>
    cases r with
    | nil =>
      simp only [cT] at h
      cases op with
      | And => exact sw_and1 (S.t g h)
      | Or => exact sw_or1 (S.t g h)
    | cons b rest =>
      cases op with
      | And =>
        simp only [cT] at h
        obtain ⟨x, y, q1, q2, rfl⟩ := noneEx_ok h
        exact sw_and (S.t g q1) (S.w g q2)
      | Or =>
        simp only [cT] at h
        obtain ⟨x, y, q1, q2, rfl⟩ := noneEx_ok h
        exact sw_or (S.t g q1) (S.w g q2)
theorem t_sound (S : SoundAt G cf k) {X : Cx} {W : WX} {I : CI} (g : Good X G W cf I) {e : Expr} {c : Ex} (h : cT I (k + 1) e = some c) : ST X G W e (bnd (ev cf c) truM) := by
  have h0 := h
  simp only [cT] at h
  split at h
  · obtain ⟨x, q1, rfl⟩ := map_some h
    exact st_not (S.t g q1)
  · exact (w_sound S g h0).pt
  · exact (w_sound S g h0).pt
  · exact (w_sound S g h0).pt
  · split at h
    · rename_i hs
      obtain ⟨x, y, q1, q2, rfl⟩ := noneEx_ok h
      exact st_cmp g.K g.hu (S.e g q1) (S.e g q2) (marks_of hs)
    · cases h
  · split at h
    · rename_i hs
      split at h
      · rename_i ca cb cc q1 q2 q3
        cases h
        exact st_cmp2 g.K g.hu (S.e g q1) (S.e g q2) (S.e g q3) (show behindInMarks _ _ = false from marks_of hs)
      · cases h
    · cases h
  · cases h
  · cases h
  · cases h
  · cases h
  · rename_i e' n1 n2 n3 n4 n5 n6 n7 n8 n9 n10
    refine st_of g.K (S.e g h) (isTrue_plain ?_)
    cases e <;> first
      | trivial
      | exact (n8 _ _ _ rfl).elim
      | exact (n9 _ _ _ _ rfl).elim
      | exact (n10 _ _ _ _ rfl).elim
      | (rename_i op _ _; cases op <;> first | trivial | exact (n7 _ _ _ rfl).elim)
theorem sound (G : GX) (cf : Cf) : ∀ k, SoundAt G cf k
  | 0 => sound0
  | k + 1 => {
      e := fun {X W I} g {e c} h => e_sound (sound G cf k) g h
      call := fun {X W I} g {x a es c p pos} h1 h2 h => call_sound (sound G cf k) g h1 h2 h
      rg := fun {X W I} g {e r} h1 h => rg_sound (sound G cf k) g h1 h
      es := fun {X W I} g {es c} h => es_sound (sound G cf k) g h
      t := fun {X W I} g {e c} h => t_sound (sound G cf k) g h
      w := fun {X W I} g {op vs p c} h => w_sound (sound G cf k) g h
      o := fun {X W I} g {e c} h => o_sound (sound G cf k) g h
      ts := fun {X W I} g {es c} h => ts_sound (sound G cf k) g h
      it := fun {X W I} g {tg e r} h => it_sound (sound G cf k) g h
      comp := fun {X W I} g {elt gens scope pos c} h => comp_sound (sound G cf k) g h }
end
end DM
set_option Elab.async false
set_option linter.all false
set_option maxRecDepth 100000
/-! DM21: the code of a statement is right. -/
namespace DM
open PySem PySem.Spec PyProof.Rows L2
section
variable {G : GX} {cf : Cf} {k : Nat} {X : Cx} {W : WX} {I : CI}
theorem swN_ok (g : Good X G W cf I) {ts vs : List Expr} {kt k2 : Nat} {pt pt2 : Pos} {r : Option (List Str)} (h : swN I ts vs = some r) : swappedStores [.Tuple ts kt pt] (.Tuple vs k2 pt2) X.env = pure r := by
  have hb : X.env.blockKind = .function := by
    unfold Env.blockKind
    rw [g.kind]
    rfl
  have hk : ∀ x, X.env.kindOf x = I.sc.names.lookup x := fun x => by
    show X.env.scope.names.lookup x = _
    rw [g.sc]
  have hbb : (X.env.blockKind != ScopeKind.function) = false := by rw [hb]; rfl
  unfold swappedStores
  unfold swN at h
  simp only [hbb, Bool.or_false, hk]
  split at h
  · rename_i c
    cases h
    exact if_pos c
  · rename_i c
    refine (if_neg c).trans ?_
    split at h
    · rename_i c2
      cases h
      exact if_pos c2
    · rename_i c2
      refine (if_neg c2).trans ?_
      simp only at h
      split at h
      · rename_i c3
        cases h
        exact if_pos c3
      · rename_i c3
        refine (if_neg c3).trans ?_
        split at h
        · rename_i c4
          cases h
          exact if_pos c4
        · rename_i c4
          refine (if_neg c4).trans ?_
          split at h
          · cases h
          · rename_i c5
            cases h
            exact if_neg c5
theorem nameIx_ok (g : Good X G W cf I) : ∀ {ts : List Expr} {is : List Nat}, nameIx I ts = some is → PGs X ts (gsN is) ∧ is.length = ts.length ∧ ts.all (fun e => !isStar e) = true
  | [], is, h => by
    cases h
    exact ⟨gsN_nil, rfl, rfl⟩
  | e :: r, is, h => by
    cases e <;> first
      | (simp only [nameIx] at h
         split at h
         · rename_i i js h1 h2
           cases h
           obtain ⟨p1, p2, p3⟩ := g.loc h1
           obtain ⟨q1, q2, q3⟩ := nameIx_ok g h2
           exact ⟨gsN_cons g.nd p1 p2 p3 q1 (by rw [assignEach_cons rfl]; rfl), by rw [List.length_cons, List.length_cons, q2], by rw [List.all_cons, q3]; rfl⟩
         · cases h)
      | (simp only [nameIx] at h; cases h)
theorem sub_asg {a i : Expr} {p : Pos} {env : Env} (h : notSlice i = true) : ∀ v, assign (.Subscript a i p) env v = (do
      let ov ← holding [v] (eval a env)
      let iv ← holding [v, ov] (eval i env)
      standAt p
      holding [v, ov, iv] (setItem ov iv v)
      release [v, ov, iv] []) := by
  intro v
  cases i <;> first
    | rfl
    | (rename_i lo hi st q; cases st <;> first | rfl | cases h)
/-- a name that is stored from the right -/
def nmAt (I : CI) (line : Nat) (x : Str) (p : Pos) : Bool := I.sc.names.lookup x == some .local && p.line == line
theorem nmAt_local {line : Nat} {x : Str} {p : Pos} (g : Good X G W cf I) (h : nmAt I line x p = true) : X.env.scope.names.lookup x = some .local := by
  unfold nmAt at h
  simp only [Bool.and_eq_true, beq_iff_eq] at h
  rw [g.sc]
  exact h.1
theorem swN2 {x y : Str} {px py : Pos} {vs : List Expr} {r : List Str} (h : swN I [.Name x px, .Name y py] vs = some (some r)) : r = [x, y] ∧ nmAt I px.line x px = true ∧ nmAt I px.line y py = true ∧ vs.length = 2 := by
  unfold swN at h
  split at h
  · cases h
  · rename_i c1
    have hl : vs.length = 2 := by simpa using c1
    split at h
    · cases h
    · simp only at h
      split at h
      · cases h
      · rename_i c3
        split at h
        · cases h
        · split at h
          · cases h
          · have hr := Option.some.inj (Option.some.inj h)
            have key : (List.filterMap (fun e : Expr => match e with
              | .Name id pos => if nmAt I px.line id pos = true then some id else none
              | _ => none) [Expr.Name x px, Expr.Name y py]) = r := hr
            have c3' : ¬ ((List.filterMap (fun e : Expr => match e with
              | .Name id pos => if nmAt I px.line id pos = true then some id else none
              | _ => none) [Expr.Name x px, Expr.Name y py]).length != 2 || _) = true := c3
            rw [key] at c3'
            have hlen : r.length = 2 := by
              simp only [Bool.or_eq_true, not_or, bne_iff_ne, ne_eq, Decidable.not_not] at c3'
              exact c3'.1
            simp only [List.filterMap_cons, List.filterMap_nil] at key
            by_cases b1 : nmAt I px.line x px = true
            · by_cases b2 : nmAt I px.line y py = true
              · rw [if_pos b1, if_pos b2] at key
                exact ⟨key.symm, b1, b2, hl⟩
              · rw [if_pos b1, if_neg b2] at key
                rw [← key] at hlen
                cases hlen
            · by_cases b2 : nmAt I px.line y py = true
              · rw [if_neg b1, if_pos b2] at key
                rw [← key] at hlen
                cases hlen
              · rw [if_neg b1, if_neg b2] at key
                rw [← key] at hlen
                cases hlen
theorem swN3 {x y z : Str} {px py pz : Pos} {vs : List Expr} {r : List Str} (h : swN I [.Name x px, .Name y py, .Name z pz] vs = some (some r)) : r = [x, y, z] ∧ nmAt I px.line x px = true ∧ nmAt I px.line y py = true ∧ nmAt I px.line z pz = true ∧ vs.length = 3 := by
  unfold swN at h
  split at h
  · cases h
  · rename_i c1
    have hl : vs.length = 3 := by simpa using c1
    split at h
    · cases h
    · simp only at h
      split at h
      · cases h
      · rename_i c3
        split at h
        · cases h
        · split at h
          · cases h
          · have hr := Option.some.inj (Option.some.inj h)
            have key : (List.filterMap (fun e : Expr => match e with
              | .Name id pos => if nmAt I px.line id pos = true then some id else none
              | _ => none) [Expr.Name x px, Expr.Name y py, Expr.Name z pz]) = r := hr
            have c3' : ¬ ((List.filterMap (fun e : Expr => match e with
              | .Name id pos => if nmAt I px.line id pos = true then some id else none
              | _ => none) [Expr.Name x px, Expr.Name y py, Expr.Name z pz]).length != 3 || _) = true := c3
            rw [key] at c3'
            have hlen : r.length = 3 := by
              simp only [Bool.or_eq_true, not_or, bne_iff_ne, ne_eq, Decidable.not_not] at c3'
              exact c3'.1
            simp only [List.filterMap_cons, List.filterMap_nil] at key
            cases b1 : nmAt I px.line x px <;> cases b2 : nmAt I px.line y py <;> cases b3 : nmAt I px.line z pz <;> simp only [b1, b2, b3, if_true, if_false, Bool.false_eq_true] at key <;> first
              | exact ⟨key.symm, rfl, rfl, rfl, hl⟩
              | (rw [← key] at hlen; cases hlen)
theorem par_sound (g : Good X G W cf I) {ts vs : List Expr} {kt k2 : Nat} {pt pt2 pos : Pos} {c : Sm} (hs : ts.all (fun e => !isStar e) = true) (h : cPar I k ts vs = some c) : PS X (.Assign [.Tuple ts kt pt] (.Tuple vs k2 pt2) pos) (tS G W (exec cf c)) := by
  have S := sound G cf k
  unfold cPar at h
  split at h
  · cases h
  · rename_i r hw
    have hw' := swN_ok (kt := kt) (k2 := k2) (pt := pt) (pt2 := pt2) g hw
    split at h
    · rename_i x px y py
      split at h
      · rename_i i j ce h1 h2 h3
        split at h
        · rename_i hij
          cases h
          obtain ⟨p1, _, _⟩ := g.loc h1
          obtain ⟨q1, _, _⟩ := g.loc h2
          obtain ⟨rfl, b1, b2, hl⟩ := swN2 hw
          match vs, hl, h3, hw' with
          | [a, b], _, h3, hw' => exact ss_par2 g.calm g.nd p1 q1 hij (nmAt_local g b1) (nmAt_local g b2) (S.es g h3) hw' rfl
        · cases h
      · cases h
    · rename_i x px y py z pz
      split at h
      · rename_i i j l ce h1 h2 h3 h4
        split at h
        · rename_i hij
          cases h
          obtain ⟨p1, _, _⟩ := g.loc h1
          obtain ⟨q1, _, _⟩ := g.loc h2
          obtain ⟨r1, _, _⟩ := g.loc h3
          obtain ⟨rfl, b1, b2, b3, hl⟩ := swN3 hw
          match vs, hl, h4, hw' with
          | [a, b, c], _, h4, hw' => exact ss_par3 g.calm g.nd p1 q1 r1 hij.1 hij.2.1 hij.2.2 (nmAt_local g b1) (nmAt_local g b2) (nmAt_local g b3) (S.es g h4) hw' rfl
        · cases h
      · cases h
    · cases h
  · rename_i hw
    have hw' := swN_ok (kt := kt) (k2 := k2) (pt := pt) (pt2 := pt2) g hw
    split at h
    · rename_i a i p1 b j p2
      split at h
      · rename_i hns
        split at h
        · rename_i ca ci cb cj q1 q2 q3 q4
          obtain ⟨ce, q5, rfl⟩ := map_some h
          simp only [Bool.and_eq_true, decide_eq_true_eq] at hns
          obtain ⟨⟨n1, n2⟩, hl⟩ := hns
          match vs, hl, q5, hw' with
          | [e1, e2], _, q5, hw' =>
            exact ss_swp g.calm g.hu (S.es g q5) (S.e g q1) (S.e g q2) (S.e g q3) (S.e g q4) rfl hw' rfl rfl rfl rfl rfl (sub_asg n1) (sub_asg n2)
        · cases h
      · cases h
    · split at h
      · rename_i is hi
        split at h
        · rename_i hc
          obtain ⟨ce, q5, rfl⟩ := map_some h
          obtain ⟨p1, p2, p3⟩ := nameIx_ok g hi
          obtain ⟨l1, l2⟩ := assign_len (env := X.env) p3
          exact ss_parT g.calm (S.es g q5) p1 hc.1 (by rw [l1, p2]) l2 rfl hw' rfl
        · cases h
      · cases h
end
section
variable {G : GX} {cf : Cf}
structure SoundS (G : GX) (cf : Cf) (k : Nat) : Prop where
  s : ∀ {X : Cx} {W : WX} {I : CI}, Good X G W cf I → PassesOwn (model X.prog X.w) X.A X.env X.xe → ∀ {st : Stmt} {c : Sm}, cS I k st = some c → PS X st (tS G W (exec cf c))
  ss : ∀ {X : Cx} {W : WX} {I : CI}, Good X G W cf I → PassesOwn (model X.prog X.w) X.A X.env X.xe → ∀ {st : List Stmt} {c : Sm}, cSs I k st = some c → PSs X st (tS G W (exec cf c))
theorem soundS0 : SoundS G cf 0 := ⟨fun {X W I} _ _ {st c} h => (nomatch (show (none : Option Sm) = some c from h)), fun {X W I} _ _ {st c} h => (nomatch (show (none : Option Sm) = some c from h))⟩
theorem cE_comp {I : CI} {k : Nat} {e : Expr} {c : Ex} (hc : isComp e = true) (h : cE I k e = some c) : ∃ elt gens scope pos, e = .ListComp elt gens scope pos := by
  cases e <;> first
    | exact ⟨_, _, _, _, rfl⟩
    | cases hc; done
    | (cases k with
       | zero => exact (nomatch (show (none : Option Ex) = some c from h))
       | succ k => simp only [cE] at h; cases h)
theorem asg_sound {k : Nat} {X : Cx} {W : WX} {I : CI} (g : Good X G W cf I) {x : Str} {e : Expr} {p pos : Pos} {i : Nat} {c : Ex} (hi : locI I x = some i) (h : cE I k e = some c) : PS X (.Assign [.Name x p] e pos) (tS G W (exec cf (.asg i c))) := by
  have S := sound G cf k
  obtain ⟨p1, p2, p3⟩ := g.loc hi
  by_cases hc : isComp e = true
  · obtain ⟨elt, gens, scope, q, rfl⟩ := cE_comp hc h
    have hb : X.env.blockKind = .function := by
      unfold Env.blockKind
      rw [g.kind]
      rfl
    have hs : swapsWith (.ListComp elt gens scope q) (some (.Name x p)) pos.line X.env = pure (X.env.blockKind == .function && X.env.kindOf x == some .local && p.line == q.line && !(scope.names.any fun (n, k) => n == x && (k == .local || k == .cell))) := rfl
    generalize hsb : (X.env.blockKind == .function && X.env.kindOf x == some .local && p.line == q.line && !(scope.names.any fun (n, k) => n == x && (k == .local || k == .cell))) = sb at hs
    cases sb with
    | false => exact ss_asg g.nd p1 p2 p3 (S.e g h) hs
    | true =>
      simp only [Bool.and_eq_true, beq_iff_eq] at hsb
      exact (S.comp g h).asg g p1 hsb.1.1.2 hs
  · exact ss_asg g.nd p1 p2 p3 (S.e g h) (swaps_no (by simpa using hc))
theorem sole_other {t e : Expr} {l : Nat} {env : Env} (h : match t with | .Name _ _ => False | _ => True) : swapsWithSole [t] e l env = pure false := swaps_other h
theorem stores_none {a i : Expr} {p : Pos} {e : Expr} {env : Env} : swappedStores [.Subscript a i p] e env = pure none := by
  cases e <;> rfl
theorem stores_none2 {t1 t2 e : Expr} {env : Env} : swappedStores [t1, t2] e env = pure none := by
  cases t1 <;> first | rfl | (cases e <;> rfl)
theorem stores_noTup {ts : List Expr} {kt : Nat} {p : Pos} {e : Expr} {env : Env} (h : isTup e = false) : swappedStores [.Tuple ts kt p] e env = pure none := by
  cases e <;> first | rfl | cases h
theorem s_sound {k : Nat} (T : SoundS G cf k) {X : Cx} {W : WX} {I : CI} (g : Good X G W cf I) (po : PassesOwn (model X.prog X.w) X.A X.env X.xe) {st : Stmt} {c : Sm} (h : cS I (k + 1) st = some c) : PS X st (tS G W (exec cf c)) := by
  have S := sound G cf k
  simp only [cS] at h
  split at h
  · cases h; exact ss_pass
  · cases h; exact ss_break
  · cases h; exact ss_cont
  · cases h; exact ss_doc
  · split at h
    · cases h
    · rename_i hc
      obtain ⟨ce, q, rfl⟩ := map_some h
      exact ss_expr (S.e g q) (swaps_no (by simpa using hc))
  · cases h; exact ss_retN
  · obtain ⟨ce, q, rfl⟩ := map_some h
    exact ss_ret (S.e g q)
  · split at h
    · rename_i cc sa sb q1 q2 q3
      cases h
      exact ss_if (S.t g q1) (T.ss g po q2) (T.ss g po q3)
    · cases h
  · split at h
    · rename_i cc sb q1 q2
      cases h
      exact ss_while po (S.t g q1) (T.ss g po q2)
    · cases h
  · split at h
    · cases h
    · rename_i hs
      split at h
      · rename_i t ik its sb q1 q2 q3
        cases h
        have tu := cTg_tu q1
        have pg := ((tg_sound k).1 g q1).1
        have pi := S.it g q2
        rw [← tu] at pi
        exact ss_for g.K po g.calm pi pg (T.ss g po q3) (folded_of (by simpa using hs))
      · cases h
  · split at h
    · rename_i i ce q1 q2
      cases h
      exact asg_sound g q1 q2
    · cases h
  · split at h
    · rename_i hs
      exact par_sound g hs h
    · cases h
  · rename_i ts kk p e pos hne
    split at h
    · rename_i t ce q1 q2
      cases h
      have tu := cTg_tu q1
      have pg := ((tg_sound k).1 g q1).1
      have nt : isTup e = false := by
        cases e <;> first | rfl | exact (hne _ _ _ rfl).elim
      exact ss_asgT g.K (S.e g q2) pg (sole_other trivial) (stores_noTup nt) rfl tu
    · cases h
  · split at h
    · rename_i hn
      split at h
      · rename_i ca ci ce q1 q2 q3
        cases h
        exact ss_setI g.hu (S.e g q3) (S.e g q1) (S.e g q2) (sole_other trivial) stores_none rfl (sub_asg hn)
      · cases h
    · cases h
  · split at h
    · rename_i hn
      simp only [Bool.and_eq_true] at hn
      split at h
      · rename_i ca ci cb cj ce q1 q2 q3 q4 q5
        cases h
        exact ss_setII g.hu (S.e g q5) (S.e g q1) (S.e g q2) (S.e g q3) (S.e g q4) stores_none2 rfl (sub_asg hn.1) (sub_asg hn.2)
      · cases h
    · cases h
  · split at h
    · rename_i i ce q1 q2
      cases h
      obtain ⟨p1, p2, p3⟩ := g.loc q1
      exact ss_aug g.nd p1 p2 p3 (S.e g q2)
    · cases h
  · split at h
    · rename_i hn
      split at h
      · rename_i ca ci ce q1 q2 q3
        cases h
        exact ss_augS g.K (S.e g q1) (S.e g q2) (S.e g q3) (augStore_of hn)
      · cases h
    · cases h
  · cases h
theorem ss_sound {k : Nat} (T : SoundS G cf k) {X : Cx} {W : WX} {I : CI} (g : Good X G W cf I) (po : PassesOwn (model X.prog X.w) X.A X.env X.xe) {st : List Stmt} {c : Sm} (h : cSs I (k + 1) st = some c) : PSs X st (tS G W (exec cf c)) := by
  simp only [cSs] at h
  split at h
  · cases h; exact ss_nil
  · split at h
    · rename_i b q1 q2
      cases h
      exact ss_skip (T.s g po q1) (T.ss g po q2)
    · rename_i a b q1 q2 q3
      cases h
      exact ss_cons (T.s g po q2) (T.ss g po q3)
    · cases h
theorem soundS (G : GX) (cf : Cf) : ∀ k, SoundS G cf k
  | 0 => soundS0
  | k + 1 => ⟨fun {X W I} g po {st c} h => s_sound (soundS G cf k) g po h, fun {X W I} g po {st c} h => ss_sound (soundS G cf k) g po h⟩
end
end DM
set_option Elab.async false
set_option linter.all false
set_option maxRecDepth 100000
/-! DM22: defs; a law's end. -/
namespace DM
open PySem PySem.Spec PyProof.Rows L2
section
variable {K : PySem.W.Frag} {E E' : Addr → Prop} {n n' as : En} {σ σ' : L2.St} {H H' : Hp}
/-! ### names that hold nothing yet -/
theorem app_get {α : Type} {l : List α} {j : Nat} {e : α} {i : Nat} {x : α} (h : (l ++ List.replicate j e)[i]? = some x) (hx : x ≠ e) : l[i]? = some x := by
  by_cases hi : i < l.length
  · rwa [List.getElem?_append_left hi] at h
  · rw [List.getElem?_append_right (by omega), List.getElem?_replicate] at h
    split at h
    · exact absurd (Option.some.inj h).symm hx
    · cases h
theorem app_at {α : Type} {l m : List α} {i : Nat} {x : α} (h : l[i]? = some x) : (l ++ m)[i]? = some x := by
  rw [List.getElem?_append_left (List.getElem?_eq_some_iff.mp h).1]
  exact h
theorem Rel.ext_emp {j : Nat} (R : Rel K E n σ H) : Rel K E (n ++ List.replicate j .emp) (σ ++ List.replicate j none) H := by
  have ex : ∀ a, Exc (n ++ List.replicate j .emp) (σ ++ List.replicate j none) a → Exc n σ a := fun a ⟨i, l, p, d, h1, h2⟩ =>
    ⟨i, l, p, d, app_get h1 (fun e => by cases e), app_get h2 (fun e => by cases e)⟩
  have an : ∀ a, OE E (n ++ List.replicate j .emp) (σ ++ List.replicate j none) a → OE E n σ a := fun a z => z.imp id (ex a)
  refine ⟨by simp [R.len], fun i d h => ?_, fun i l p d h => ?_, fun i k a _ _ _ _ _ _ h1 h2 s1 s2 => ?_, fun i c pl h => ?_, R.ext⟩
  · obtain ⟨v, q1, q2⟩ := R.val i d (app_get h (fun e => by cases e))
    exact ⟨v, app_at q1, q2.anti an⟩
  · obtain ⟨a, q1, q2, q3⟩ := R.own i l p d (app_get h (fun e => by cases e))
    exact ⟨a, app_at q1, q2.anti an, q3⟩
  · exact R.apart i k a _ _ _ _ _ _ (app_get h1 (fun e => by cases e)) (app_get h2 (fun e => by cases e)) (app_get s1 (fun e => by cases e)) (app_get s2 (fun e => by cases e))
  · exact R.noexc i c pl (app_get h (fun e => by cases e))
theorem ext_mu {j : Nat} : ∀ a, Mu (n ++ List.replicate j .emp) (σ ++ List.replicate j none) a → Mu n σ a := fun a ⟨i, p, d, h1, h2⟩ => ⟨i, p, d, app_get h1 (fun e => by cases e), app_get h2 (fun e => by cases e)⟩
theorem ext_exc {j : Nat} : ∀ a, Exc (n ++ List.replicate j .emp) (σ ++ List.replicate j none) a → Exc n σ a := fun a ⟨i, l, p, d, h1, h2⟩ => ⟨i, l, p, d, app_get h1 (fun e => by cases e), app_get h2 (fun e => by cases e)⟩

/-! ### what comes back of the parameters -/
theorem fitA_get : ∀ {io : List Bool} {as : List Sl}, fitA io as = true → io.length = as.length ∧ ∀ (k : Nat) (s : Sl), as[k]? = some s → (io[k]? = some true ∧ ∃ d, s = .own false true d) ∨ (io[k]? = some false ∧ ∃ d, s = .val d)
  | [], [], _ => ⟨rfl, fun k s h => by simp at h⟩
  | true :: ios, .own false true d :: as, h => by
    obtain ⟨h1, h2⟩ := fitA_get (io := ios) (as := as) h
    refine ⟨by rw [List.length_cons, List.length_cons, h1], fun k s e => ?_⟩
    cases k with
    | zero => cases e; exact .inl ⟨rfl, d, rfl⟩
    | succ k => exact h2 k s e
  | false :: ios, .val d :: as, h => by
    obtain ⟨h1, h2⟩ := fitA_get (io := ios) (as := as) h
    refine ⟨by rw [List.length_cons, List.length_cons, h1], fun k s e => ?_⟩
    cases k with
    | zero => cases e; exact .inr ⟨rfl, d, rfl⟩
    | succ k => exact h2 k s e
  | true :: _, [], h => by cases h
  | false :: _, [], h => by cases h
  | [], _ :: _, h => by cases h
  | true :: _, .val _ :: _, h => by cases h
  | true :: _, .emp :: _, h => by cases h
  | true :: _, .exc _ _ :: _, h => by cases h
  | true :: _, .own true _ _ :: _, h => by cases h
  | true :: _, .own false false _ :: _, h => by cases h
  | false :: _, .own _ _ _ :: _, h => by cases h
  | false :: _, .emp :: _, h => by cases h
  | false :: _, .exc _ _ :: _, h => by cases h
theorem maskIO_get : ∀ {io : List Bool} {n : En}, (maskIO io n).length = io.length ∧ ∀ (j : Nat) (s : Sl), (maskIO io n)[j]? = some s → s ≠ .emp → io[j]? = some true ∧ n[j]? = some s
  | [], n => ⟨by cases n <;> rfl, fun j s h => by cases n <;> simp [maskIO] at h⟩
  | b :: io, [] => by
    have e : maskIO (b :: io) [] = .emp :: maskIO io [] := by cases b <;> rfl
    obtain ⟨h1, h2⟩ := maskIO_get (io := io) (n := [])
    rw [e]
    refine ⟨by rw [List.length_cons, List.length_cons, h1], fun j s h hs => ?_⟩
    cases j with
    | zero => exact absurd (Option.some.inj h).symm hs
    | succ j =>
      obtain ⟨_, q⟩ := h2 j s h hs
      simp at q
  | true :: io, x :: n => by
    obtain ⟨h1, h2⟩ := maskIO_get (io := io) (n := n)
    refine ⟨by show (maskIO io n).length + 1 = _; rw [h1]; rfl, fun j s h hs => ?_⟩
    cases j with
    | zero => exact ⟨rfl, h⟩
    | succ j => exact h2 j s h hs
  | false :: io, x :: n => by
    obtain ⟨h1, h2⟩ := maskIO_get (io := io) (n := n)
    refine ⟨by show (maskIO io n).length + 1 = _; rw [h1]; rfl, fun j s h hs => ?_⟩
    cases j with
    | zero => exact absurd (Option.some.inj h).symm hs
    | succ j => exact h2 j s h hs
theorem maskIO_at : ∀ {io : List Bool} {n : En} {j : Nat} {s : Sl}, io[j]? = some true → n[j]? = some s → (maskIO io n)[j]? = some s
  | true :: io, x :: n, 0, s, _, h => h
  | true :: io, x :: n, j + 1, s, h1, h2 => maskIO_at (io := io) (n := n) (j := j) h1 h2
  | false :: io, x :: n, j + 1, s, h1, h2 => maskIO_at (io := io) (n := n) (j := j) h1 h2
  | false :: io, x :: n, 0, s, h, _ => by cases h
  | [], _, _, _, h, _ => by simp at h
  | _ :: _, [], _, _, _, h => by simp at h
/-- the state at a def's end, told of its parameters alone -/
structure Masked (K : PySem.W.Frag) (E : Addr → Prop) (io : List Bool) (as : En) (vs : List V) (H : Hp) (n' : En) (σ' : L2.St) (H' : Hp) : Prop where
  step : Step as (vs.map some) H (maskIO io n') (vs.map some) H'
  exc : ∀ a, Exc (maskIO io n') (vs.map some) a → Exc n' σ' a
  slot : ∀ (j : Nat) l p d, (maskIO io n')[j]? = some (.own l p d) → p = true ∧ n'[j]? = some (.own l p d) ∧ (vs.map some)[j]? = σ'[j]?
  rel : ∀ E2 : Addr → Prop, (∀ x, E2 x → E x ∨ ∃ (i : Nat) (l : Bool) (d : PyData), n'[i]? = some (.own l false d) ∧ σ'[i]? = some (some (.ref x))) → LO H' E2 → Rel K E2 (maskIO io n') (vs.map some) H'
theorem masked {io : List Bool} {vs : List V} {j : Nat} (fit : fitA io as = true) (hl : as.length = vs.length) (Rs : Rel K E n' σ' H') (s : Step (as ++ List.replicate j .emp) (vs.map some ++ List.replicate j none) H n' σ' H') : Masked K E io as vs H n' σ' H' := by
  obtain ⟨f1, f2⟩ := fitA_get fit
  obtain ⟨m1, m2⟩ := maskIO_get (io := io) (n := n')
  have par : ∀ k : Nat, io[k]? = some true → ∃ l d, n'[k]? = some (.own l true d) ∧ σ'[k]? = (vs.map some)[k]? := fun k hk => by
    have hk1 : k < as.length := by rw [← f1]; exact (List.getElem?_eq_some_iff.mp hk).1
    rcases f2 k as[k] (List.getElem?_eq_getElem hk1) with ⟨_, d, e⟩ | ⟨z, _⟩
    · have e1 : as[k]? = some (.own false true d) := by rw [List.getElem?_eq_getElem hk1, e]
      obtain ⟨l, d', q1, q2⟩ := s.pr k false d (app_at e1)
      refine ⟨l, d', q1, q2.trans ?_⟩
      rw [List.getElem?_append_left (by rw [List.length_map, ← hl]; exact hk1)]
    · rw [hk] at z; cases z
  have slot : ∀ (j : Nat) l p d, (maskIO io n')[j]? = some (.own l p d) → p = true ∧ n'[j]? = some (.own l p d) ∧ (vs.map some)[j]? = σ'[j]? := fun j l p d h => by
    obtain ⟨q1, q2⟩ := m2 j _ h (fun e => by cases e)
    obtain ⟨l', d', q3, q4⟩ := par j q1
    rw [q2] at q3
    cases q3
    exact ⟨rfl, q2, q4.symm⟩
  have noval : ∀ (j : Nat) d, (maskIO io n')[j]? ≠ some (.val d) := fun j d h => by
    obtain ⟨q1, q2⟩ := m2 j _ h (fun e => by cases e)
    obtain ⟨l', d', q3, q4⟩ := par j q1
    rw [q2] at q3
    cases q3
  have exc : ∀ a, Exc (maskIO io n') (vs.map some) a → Exc n' σ' a := fun a ⟨j, l, p, d, h1, h2⟩ => by
    obtain ⟨_, q2, q3⟩ := slot j l p d h1
    exact ⟨j, l, p, d, q2, by rw [← q3]; exact h2⟩
  have mu : ∀ a, Mu (maskIO io n') (vs.map some) a → Mu n' σ' a := fun a ⟨j, p, d, h1, h2⟩ => by
    obtain ⟨_, q2, q3⟩ := slot j false p d h1
    exact ⟨j, p, d, q2, by rw [← q3]; exact h2⟩
  refine ⟨⟨fun a o e m => s.fr a o e fun z => m (ext_mu a z), s.tr, fun a z => (s.mu a (mu a z)).imp (ext_mu a) id, fun a z => (s.ex a (exc a z)).imp (ext_exc a) id, fun i l d e => ?_, fun i p d e => ?_⟩, exc, slot, fun E2 h2 lo => ?_⟩
  · obtain ⟨l', d', q1, q2⟩ := s.pr i l d (app_at e)
    have hio : io[i]? = some true := by
      rcases f2 i _ e with ⟨z, _⟩ | ⟨_, d, z⟩
      · exact z
      · cases z
    exact ⟨l', d', maskIO_at hio q1, rfl⟩
  · obtain ⟨_, q2, q3⟩ := slot i true p d e
    obtain ⟨d', k1, k2⟩ := s.lk i p d q2
    exact ⟨d', app_get k1 (fun e => by cases e), rfl⟩
  · have an : ∀ a, OE E2 (maskIO io n') (vs.map some) a → OE E n' σ' a := fun a z => by
      rcases z with z | z
      · rcases h2 a z with z | ⟨i, l, d, z1, z2⟩
        · exact .inl z
        · exact .inr ⟨i, l, false, d, z1, z2⟩
      · exact .inr (exc a z)
    refine ⟨by rw [m1, f1, hl, List.length_map], fun i d h => absurd h (noval i d), fun i l p d h => ?_, fun i k a _ _ _ _ _ _ h1 h2 s1 s2 => ?_, fun i c pl h => ?_, lo⟩
    · obtain ⟨rfl, q2, q3⟩ := slot i l p d h
      obtain ⟨a, k1, k2, k3⟩ := Rs.own i l true d q2
      refine ⟨a, by rw [q3]; exact k1, k2.anti an, fun z => ?_⟩
      rcases h2 a z with z | ⟨i', l', d', z1, z2⟩
      · exact k3 z
      · have hij := Rs.apart i i' a _ _ _ _ _ _ q2 z1 k1 z2
        subst hij
        rw [q2] at z1
        cases z1
    · obtain ⟨_, q2, q3⟩ := slot i _ _ _ h1
      obtain ⟨_, q4, q5⟩ := slot k _ _ _ h2
      exact Rs.apart i k a _ _ _ _ _ _ q2 q4 (by rw [← q3]; exact s1) (by rw [← q5]; exact s2)
    · obtain ⟨q1, q2⟩ := m2 i _ h (fun e => by cases e)
      exact Rs.noexc i c pl q2
end
section
variable {G : GX}
/-- a def's run, read off its body's -/
theorem body_of {p : List Fn} {k fi : Nat} {fn : Fn} {N : List Str} {vs : List V} {H : Hp} {Q : VK} {Ex : XK} (hp : p[fi]? = some fn) (hn : fn.nl = N.length) (hio : fn.io.length ≤ N.length) (h : spF G (run p (k + 1) fi) fn.io.length vs H Q Ex) :
    tS G (fun c d _ H => Ex c d H) (exec (run p k) fn.body) { nx := fun _ H' => Q .non H', rt := Q } (L2.start N vs) H := by
  obtain ⟨hl, E, as, R, P⟩ := h
  simp only [run, hp] at P
  split at P
  · rename_i hc
    simp only [Bool.and_eq_true, decide_eq_true_eq] at hc
    have lA : as.length = vs.length := by have := R.len; rwa [List.length_map] at this
    have e0 : L2.start N vs = vs.map some ++ List.replicate (fn.nl - fn.io.length) none := by
      unfold L2.start
      rw [hn, hl]
    rw [e0]
    refine ⟨E, _, R.ext_emp (j := fn.nl - fn.io.length), ?_⟩
    cases hr : exec (run p k) fn.body (as ++ List.replicate (fn.nl - fn.io.length) .emp) with
    | bad => rw [hr] at P; exact P.elim
    | err c pl n' =>
      rw [hr] at P
      intro σ' H' dx fs vp r s h1 h2 h3 h4
      have M := masked hc.1 lA r s
      exact P H' dx fs vp (M.rel E (fun x z => .inl z) r.ext) M.step h1 h2 (RV.anti (fun a z => z.imp id (M.exc a)) h3) h4
    | ok fl n' =>
      rw [hr] at P
      cases fl with
      | brk => exact P.elim
      | cont => exact P.elim
      | next =>
        intro σ' H' r s
        have M := masked hc.1 lA r s
        exact P .non H' ⟨M.rel _ (fun x z => z.elim .inl False.elim) fun a z => z.elim (r.ext a) False.elim, .non, M.step, fun _ z => z.elim⟩
      | ret o =>
        intro v σ' H' sr
        have M := masked hc.1 lA sr.rel sr.step
        change PostC G Ex E as vs H Q (match retO o n' with | some r => .ok r.1 r.2 (maskIO fn.io n') | none => .bad) at P
        cases o with
        | v d =>
          exact P v H' ⟨M.rel _ (fun x z => .inl z) sr.rel.ext, RV.anti (fun a z => z.imp id (M.exc a)) sr.op, M.step, sr.new⟩
        | f d =>
          obtain ⟨a, ea, ov⟩ := sr.op
          exact P v H' ⟨M.rel _ (fun x z => .inl z) sr.rel.ext, ⟨a, ea, ov.anti fun b z => z.imp id (M.exc b)⟩, M.step, sr.new⟩
        | s i =>
          have hv : σ'[i]? = some (some v) := sr.op
          cases hs : n'[i]? with
          | none => simp only [retO, hs] at P; exact P.elim
          | some q =>
            cases q with
            | emp => simp only [retO, hs] at P; exact P.elim
            | exc c pl => simp only [retO, hs] at P; exact P.elim
            | val d =>
              simp only [retO, hs] at P
              obtain ⟨w, y1, y2⟩ := sr.rel.val i d hs
              rw [hv] at y1
              cases y1
              exact P v H' ⟨M.rel _ (fun x z => .inl z) sr.rel.ext, RV.anti (fun a z => z.imp id (M.exc a)) y2, M.step, fun _ z => z.elim⟩
            | own l pr d =>
              cases pr with
              | true => simp only [retO, hs] at P; exact P.elim
              | false =>
                simp only [retO, hs] at P
                obtain ⟨a, y1, y2, y3⟩ := sr.rel.own i l false d hs
                rw [hv] at y1
                cases y1
                have up : ∀ x, orP E (tmp (.f d) (.ref a)) x → orP E (tmp (.s i) (.ref a)) x ∨ ∃ (i : Nat) (l : Bool) (d : PyData), n'[i]? = some (.own l false d) ∧ σ'[i]? = some (some (.ref x)) := fun x z => by
                  rcases z with z | z
                  · exact .inl (.inl z)
                  · cases z
                    exact .inr ⟨i, l, d, hs, hv⟩
                refine P (.ref a) H' ⟨M.rel _ up fun x z => ?_, ⟨a, rfl, y2.anti fun x z => ?_⟩, M.step, fun x z => ?_⟩
                · rcases z with z | z
                  · exact sr.rel.ext x (.inl z)
                  · cases z
                    obtain ⟨u0, xs, ds, c0, q, _⟩ := y2
                    exact ⟨u0, q, xs, ds, _, c0⟩
                · rcases z with z | z
                  · rcases up x z with z | ⟨i', l', d', z1, z2⟩
                    · exact .inl z
                    · exact .inr ⟨i', l', false, d', z1, z2⟩
                  · exact .inr (M.exc x z)
                · cases z
                  rcases sr.step.ex a ⟨i, l, false, d, hs, hv⟩ with z | z
                  · exfalso
                    obtain ⟨j, l', p', d', z1, z2⟩ := ext_exc a z
                    obtain ⟨_, f2⟩ := fitA_get hc.1
                    rcases f2 j _ z1 with ⟨_, d2, e2⟩ | ⟨_, d2, e2⟩
                    · cases e2
                      obtain ⟨l3, d3, k1, k2⟩ := sr.step.pr j false d' (app_at z1)
                      have k3 : σ'[j]? = some (some (.ref a)) := k2.trans (app_at z2)
                      have hij := sr.rel.apart i j a _ _ _ _ _ _ hs k1 hv k3
                      subst hij
                      rw [hs] at k1
                      cases k1
                    · cases e2
                  · exact z
  · exact P.elim

/-! ### the table of defs -/
structure Ent where
  name : Str
  io : List Bool
  N : List Str
  ps : List Str
  st : Stmt
  body : Sm
def Ent.fn (e : Ent) : Fn := ⟨e.io, e.N.length, e.body⟩
def tabF : List Ent → Nat → List (Str × Nat × List Bool)
  | [], _ => []
  | e :: es, k => (e.name, k, e.io) :: tabF es (k + 1)
theorem tabF_ok {x : Str} {fi : Nat} {ios : List Bool} : ∀ {es : List Ent} {k : Nat}, (tabF es k).lookup x = some (fi, ios) → k ≤ fi ∧ ∃ e, es[fi - k]? = some e ∧ e.name = x ∧ e.io = ios
  | [], _, h => by cases h
  | e :: es, k, h => by
    simp only [tabF, List.lookup_cons] at h
    cases hx : x == e.name with
    | true =>
      rw [hx] at h
      cases h
      exact ⟨Nat.le_refl _, e, by rw [Nat.sub_self]; rfl, (by simpa using hx : x = e.name).symm, rfl⟩
    | false =>
      rw [hx] at h
      obtain ⟨h1, e', h2, h3⟩ := tabF_ok (es := es) h
      refine ⟨by omega, e', ?_, h3⟩
      have : fi - k = (fi - (k + 1)) + 1 := by omega
      rw [this]
      exact h2
def tabP (es : List Ent) : List Fn := es.map Ent.fn
def Ent.ci (es : List Ent) (C : List (Str × PyData)) (B : List Str) (e : Ent) : CI := ⟨e.N, defScope e.st, fun _ => true, tabF es 0, C, B⟩
/-- what the text shows -/
structure EntOk (es : List Ent) (C : List (Str × PyData)) (B : List Str) (e : Ent) : Prop where
  sc : FnScope e.N e.ps (defScope e.st)
  code : ∃ k, cSs (e.ci es C B) k (defBody e.st) = some e.body
  io : e.io.length = e.ps.length
/-- what the written part shows -/
structure EntK (K : PySem.W.Frag) (mg : Str → Option Value) (e : Ent) : Prop where
  ex : ∃ f fd, Fun K e.name e.name e.st f fd ∧ mg e.name = some (.ref f) ∧ Binds K fd e.ps []
theorem scope_len {N P : List Str} {sc : Scope} (S : FnScope N P sc) : P.length ≤ N.length := by
  have := congrArg List.length S.pre
  rw [List.length_take] at this
  omega
theorem all_ok {P : Program} {w : World} {mg : Str → Option Value} {base : Heap} {es : List Ent} {C : List (Str × PyData)} {B : List Str} (h1 : ∀ e ∈ es, EntOk es C B e) (h2 : ∀ e ∈ es, EntK G.K mg e) (mgb : ∀ x ∈ B, mg x = none) (cst : ∀ x d, C.lookup x = some d → ∃ u v, mg x = some u ∧ RelV v u ∧ ∀ H O, RV G.K H O v d) :
    ∀ (d i : Nat) (e : Ent), es[i]? = some e → ∀ (f : Addr) (fd : FuncData), Fun G.K e.name e.name e.st f fd → FnOk P w G.K mg base (L2.CX P w) d f fd e.ps (spF G (run (tabP es) d i) e.ps.length)
  | 0, i, e, he, f, fd, F => ⟨fun vs H Q E h => h.1, fun A outer s H args us vs Q E _ _ _ _ h => by
      obtain ⟨_, E', as, _, q⟩ := h
      exact q.elim⟩
  | d + 1, i, e, he, f, fd, F => by
    have ok := h1 e (List.mem_of_getElem? he)
    obtain ⟨kf, hc⟩ := ok.code
    have hp : (tabP es)[i]? = some e.fn := by
      unfold tabP
      rw [List.getElem?_map, he]
      rfl
    refine F.okX ok.sc (fun vs H Q E h => h.1) fun cdv A outer s H vs Q E hr h => ?_
    have hio : e.fn.io.length = e.ps.length := ok.io
    rw [← hio] at h
    refine ⟨tS G (fun c d _ H => E c d H) (exec (run (tabP es) d) e.body), ?_, body_of hp rfl (by rw [hio]; exact scope_len ok.sc) h⟩
    have g : Good (cxOf (L2.CX P w) P w G.K mg base e.N e.name (defScope e.st) f cdv A outer s H E) G (fun c d _ H => E c d H) (run (tabP es) d) (e.ci es C B) := by
      refine ⟨rfl, rfl, ok.sc.nd, rfl, rfl, ok.sc.kind, rfl, hr.units, takes_of rfl rfl rfl rfl, mgb, fun x fi ios hl => ?_, cst⟩
      obtain ⟨_, e', q1, rfl, rfl⟩ := tabF_ok hl
      rw [Nat.sub_zero] at q1
      obtain ⟨f', fd', F', m', b'⟩ := (h2 e' (List.mem_of_getElem? q1)).ex
      exact ⟨d, f', fd', e'.ps, hr, m', F'.kp, b', all_ok h1 h2 mgb cst d fi e' q1 f' fd' F', (h1 e' (List.mem_of_getElem? q1)).io⟩
    exact (soundS G (run (tabP es) d) kf).ss g (passes_of rfl) hc

/-! ### a law's end -/
theorem law_sp {K : PySem.W.Frag} {xc : Nat → Addr} {xn : Nat → Str} {out : List Sl → Out} (hrun : ∀ ns : List Int, ns.length ≤ 63 → ∃ fin, out [.val (FL (ns.map PyData.int))] = .ok false (.bool true) fin)
    (H : Hp) (a : Addr) (ns : List Int) (hl : ns.length ≤ 63) (hS : SqL K H a (ns.map V.int)) : spF ⟨K, xc, xn⟩ out 1 [.ref a] H (fun v _ => v = .bl true) fun _ _ _ => False := by
  refine ⟨rfl, fun _ => False, [.val (FL (ns.map PyData.int))], ?_, ?_⟩
  · have noexc : ∀ b, ¬ OE (fun _ => False) [Sl.val (FL (ns.map PyData.int))] [some (V.ref a)] b := fun b z => by
      rcases z with z | ⟨i, l, p, d, h1, h2⟩
      · exact z
      · cases i with
        | zero => cases h1
        | succ i => simp at h1
    have rvs : ∀ O : Addr → Prop, RVs K H O (ns.map V.int) (ns.map PyData.int) := fun O => by
      clear hl hS noexc
      induction ns with
      | nil => exact .nil
      | cons n ns ih => exact .cons (.int n) ih
    refine ⟨rfl, fun i d h => ?_, fun i l p d h => ?_, fun i j b l p d l' p' d' h1 h2 s1 s2 => ?_, fun i c pl h => ?_, fun b z => z.elim⟩
    · cases i with
      | zero =>
        cases h
        refine ⟨.ref a, rfl, ?_⟩
        rcases SqL.cases hS with q | q
        · exact .frz (noexc a) q (rvs _)
        · exact .frzK q (rvs _)
      | succ i => simp at h
    · cases i with
      | zero => cases h
      | succ i => simp at h
    · cases i with
      | zero => cases h1
      | succ i => simp at h1
    · cases i with
      | zero => cases h
      | succ i => simp at h
  · obtain ⟨fin, e⟩ := hrun ns hl
    rw [e]
    intro v H' er
    have op : RV K H' _ v (.bool true) := er.op
    cases op.b
    rfl
theorem no_cx {P : Program} {w : World} {H : Hp} {s : Shared} {e : Value} {s' : Shared} (h : L2.CX P w [] H s (fun _ _ _ => False) e s') : False := by
  obtain ⟨_, _, _, _, _, _, _, _, _, _, _, _, z⟩ := h
  exact z
end
end DM
set_option Elab.async false
set_option linter.all false
set_option maxRecDepth 100000
/-! DML: rules to walk through code. -/
namespace DM
open PySem
section
variable {α β : Type} {cf : Cf} {n : En}
/-- m ends well, and then Q -/
def wp (m : M α) (n : En) (Q : α → En → Prop) : Prop := ∃ a n', m n = .ok a n' ∧ Q a n'
theorem wp_ret {a : α} {Q : α → En → Prop} (q : Q a n) : wp (ret a) n Q := ⟨a, n, rfl, q⟩
theorem wp_bnd {m : M α} {f : α → M β} {Q : β → En → Prop} (h : wp m n fun a n' => wp (f a) n' Q) : wp (bnd m f) n Q := by
  obtain ⟨a, n', e, b, n2, e2, q⟩ := h
  exact ⟨b, n2, by unfold bnd; rw [e]; exact e2, q⟩
theorem wp_mono {m : M α} {Q R : α → En → Prop} (h : wp m n Q) (k : ∀ a n', Q a n' → R a n') : wp m n R := by
  obtain ⟨a, n', e, q⟩ := h
  exact ⟨a, n', e, k a n' q⟩
theorem wp_opt {o : Option α} {a : α} {Q : α → En → Prop} (e : o = some a) (q : Q a n) : wp (opt o) n Q := by subst e; exact ⟨a, n, rfl, q⟩
theorem wp_some {a : α} {Q : α → En → Prop} (q : Q a n) : wp (opt (some a)) n Q := ⟨a, n, rfl, q⟩
theorem wp_if {t : Bool} {a b : M α} {Q : α → En → Prop} (h1 : t = true → wp a n Q) (h2 : t = false → wp b n Q) : wp (if t = true then a else b) n Q := by
  cases t
  · exact h2 rfl
  · exact h1 rfl
theorem wp_t {a b : M α} {Q : α → En → Prop} (h1 : wp a n Q) : wp (if true = true then a else b) n Q := h1
theorem wp_f {a b : M α} {Q : α → En → Prop} (h1 : wp b n Q) : wp (if false = true then a else b) n Q := h1
theorem wp_pos {p : Prop} [Decidable p] {a b : M α} {Q : α → En → Prop} (h1 : wp a n Q) (h : p) : wp (if p then a else b) n Q := by rw [if_pos h]; exact h1
/-- replace at a place -/
inductive SetAt : En → Nat → Sl → En → Prop
  | zero {x s : Sl} {n : En} : SetAt (x :: n) 0 s (s :: n)
  | succ {x s : Sl} {n n2 : En} {i : Nat} (h : SetAt n i s n2) : SetAt (x :: n) (i + 1) s (x :: n2)
theorem SetAt.eq {n n2 : En} {i : Nat} {s : Sl} (h : SetAt n i s n2) : n.set i s = n2 := by
  induction h with
  | zero => rfl
  | succ _ ih => rw [List.set_cons_succ, ih]
theorem SetAt.get {n n2 : En} {i : Nat} {s : Sl} (h : SetAt n i s n2) : ∃ x, n[i]? = some x := by
  induction h with
  | zero => exact ⟨_, rfl⟩
  | succ _ ih => exact ih
/-! operands -/
theorem wp_rd_v {d : PyData} {Q : PyData → En → Prop} (q : Q d n) : wp (rd (.v d)) n Q := ⟨_, _, rfl, q⟩
theorem wp_rd_f {d : PyData} {Q : PyData → En → Prop} (q : Q d n) : wp (rd (.f d)) n Q := ⟨_, _, rfl, q⟩
theorem wp_rd_s {i : Nat} {l p : Bool} {d : PyData} {Q : PyData → En → Prop} (h : n[i]? = some (.own l p d)) (q : Q d n) : wp (rd (.s i)) n Q := ⟨d, n, by simp only [rd, h], q⟩
theorem wp_rd_sv {i : Nat} {d : PyData} {Q : PyData → En → Prop} (h : n[i]? = some (.val d)) (q : Q d n) : wp (rd (.s i)) n Q := ⟨d, n, by simp only [rd, h], q⟩
theorem wp_kp_v {d : PyData} {Q : PyData → En → Prop} (q : Q d n) : wp (keep (.v d)) n Q := ⟨_, _, rfl, q⟩
theorem wp_kp_f {d : PyData} {Q : PyData → En → Prop} (q : Q d n) : wp (keep (.f d)) n Q := ⟨_, _, rfl, q⟩
theorem wp_kp_s {i : Nat} {l : Bool} {d : PyData} {n2 : En} {Q : PyData → En → Prop} (h : n[i]? = some (.own l false d)) (s : SetAt n i (.val d) n2) (q : Q d n2) : wp (keep (.s i)) n Q := ⟨d, n2, by simp only [keep, h, s.eq], q⟩
theorem wp_kp_sv {i : Nat} {d : PyData} {Q : PyData → En → Prop} (h : n[i]? = some (.val d)) (q : Q d n) : wp (keep (.s i)) n Q := ⟨d, n, by simp only [keep, h], q⟩
theorem wp_rds0 {Q : List PyData → En → Prop} (q : Q [] n) : wp (rds []) n Q := ⟨_, _, rfl, q⟩
theorem wp_rds {o : Opd} {os : List Opd} {Q : List PyData → En → Prop} (h : wp (rd o) n fun d n1 => wp (rds os) n1 fun ds n2 => Q (d :: ds) n2) : wp (rds (o :: os)) n Q :=
  wp_bnd (wp_mono h fun _ _ h => wp_bnd (wp_mono h fun _ _ h => wp_ret h))
theorem wp_keeps0 {Q : List PyData → En → Prop} (q : Q [] n) : wp (keeps []) n Q := ⟨_, _, rfl, q⟩
theorem wp_keeps {o : Opd} {os : List Opd} {Q : List PyData → En → Prop} (h : wp (keep o) n fun d n1 => wp (keeps os) n1 fun ds n2 => Q (d :: ds) n2) : wp (keeps (o :: os)) n Q :=
  wp_bnd (wp_mono h fun _ _ h => wp_bnd (wp_mono h fun _ _ h => wp_ret h))
/-! expressions -/
/-- both -/
structure Both (A B : Prop) : Prop where
  l : A
  r : B
/-- on what a method is called -/
inductive Tagged (m : Mf) : PyData → (Tag → Prop) → Prop
  | lst {xs : List PyData} {P : Tag → Prop} (h : P .lst) : Tagged m (.list xs) P
  | tup {xs : List PyData} {P : Tag → Prop} (ok : mthOk m .tup = true) (h : P .tup) : Tagged m (.tuple xs) P
/-- a number -/
inductive IntOk : PyData → (Int → Prop) → Prop
  | mk {i : Int} {P : Int → Prop} (h : P i) : IntOk (.int i) P
section
variable {Q : Opd → En → Prop}
theorem wp_var_v {i : Nat} {d : PyData} (h : n[i]? = some (.val d)) (q : Q (.v d) n) : wp (ev cf (.var i)) n Q := ⟨_, n, by simp only [ev, h], q⟩
theorem wp_var_o {i : Nat} {l p : Bool} {d : PyData} (h : n[i]? = some (.own l p d)) (q : Q (.s i) n) : wp (ev cf (.var i)) n Q := ⟨_, n, by simp only [ev, h], q⟩
theorem wp_con {d : PyData} (q : Q (.v d) n) : wp (ev cf (.con d)) n Q := by simp only [ev]; exact wp_ret q
theorem wp_bin {op : Operator} {a b : Ex} (h : wp (ev cf a) n fun x n1 => wp (ev cf b) n1 fun y n2 => wp (rd x) n2 fun d n3 => wp (rd y) n3 fun e n4 => wp (opt (binD op d e)) n4 Q) : wp (ev cf (.bin op a b)) n Q := by
  simp only [ev]
  exact wp_bnd (wp_mono h fun _ _ h => wp_bnd (wp_mono h fun _ _ h => wp_bnd (wp_mono h fun _ _ h => wp_bnd h)))
theorem wp_neg {a : Ex} (h : wp (ev cf a) n fun x n1 => wp (rd x) n1 fun d n2 => IntOk d fun i => Q (.v (.int (-i))) n2) : wp (ev cf (.neg a)) n Q := by
  simp only [ev]
  exact wp_bnd (wp_mono h fun _ _ h => wp_bnd (wp_mono h fun _ _ h => by cases h with | mk q => exact wp_ret q))
theorem wp_tru {o : Opd} {R : Bool → En → Prop} (h : wp (rd o) n fun d n1 => wp (opt (tru d)) n1 R) : wp (truM o) n R := wp_bnd h
theorem wp_not {a : Ex} (h : wp (ev cf a) n fun x n1 => wp (truM x) n1 fun b n2 => Q (.v (.bool !b)) n2) : wp (ev cf (.not a)) n Q := by
  simp only [ev]
  exact wp_bnd (wp_mono h fun _ _ h => wp_bnd (wp_mono h fun _ _ q => wp_ret q))
theorem wp_and {a b : Ex} (h : wp (ev cf a) n fun x n1 => wp (truM x) n1 fun t n2 => wp (if t = true then ev cf b else ret x) n2 Q) : wp (ev cf (.and a b)) n Q := by
  simp only [ev]
  exact wp_bnd (wp_mono h fun _ _ h => wp_bnd h)
theorem wp_or {a b : Ex} (h : wp (ev cf a) n fun x n1 => wp (truM x) n1 fun t n2 => wp (if t = true then ret x else ev cf b) n2 Q) : wp (ev cf (.or a b)) n Q := by
  simp only [ev]
  exact wp_bnd (wp_mono h fun _ _ h => wp_bnd h)
theorem wp_cmp {op : CmpOp} {a b : Ex} (h : wp (ev cf a) n fun x n1 => wp (ev cf b) n1 fun y n2 => wp (rd x) n2 fun d n3 => wp (rd y) n3 fun e n4 => wp (opt (cmpD op d e)) n4 fun t n5 => Q (.v (.bool t)) n5) : wp (ev cf (.cmp op a b)) n Q := by
  simp only [ev]
  exact wp_bnd (wp_mono h fun _ _ h => wp_bnd (wp_mono h fun _ _ h => wp_bnd (wp_mono h fun _ _ h => wp_bnd (wp_mono h fun _ _ h => wp_bnd (wp_mono h fun _ _ h => wp_ret h)))))
theorem wp_cmp2 {op op' : CmpOp} {a b c : Ex} (h : wp (ev cf a) n fun x n1 => wp (ev cf b) n1 fun y n2 => wp (rd x) n2 fun d n3 => wp (rd y) n3 fun e n4 => wp (opt (cmpD op d e)) n4 fun t n5 =>
    wp (if t = true then bnd (ev cf c) fun z => bnd (rd y) fun e => bnd (rd z) fun g => bnd (opt (cmpD op' e g)) fun t => ret (.v (.bool t)) else ret (.v (.bool false))) n5 Q) : wp (ev cf (.cmp2 op op' a b c)) n Q := by
  simp only [ev]
  exact wp_bnd (wp_mono h fun _ _ h => wp_bnd (wp_mono h fun _ _ h => wp_bnd (wp_mono h fun _ _ h => wp_bnd (wp_mono h fun _ _ h => wp_bnd h))))
theorem wp_ife {c a b : Ex} (h : wp (ev cf c) n fun x n1 => wp (truM x) n1 fun t n2 => wp (if t = true then ev cf a else ev cf b) n2 Q) : wp (ev cf (.ife c a b)) n Q := by
  simp only [ev]
  exact wp_bnd (wp_mono h fun _ _ h => wp_bnd h)
theorem wp_evs0 {R : List Opd → En → Prop} (q : R [] n) : wp (evs cf .nil) n R := by simp only [evs]; exact wp_ret q
theorem wp_evs {e es : Ex} {R : List Opd → En → Prop} (h : wp (ev cf e) n fun o n1 => wp (evs cf es) n1 fun os n2 => R (o :: os) n2) : wp (evs cf (.cons e es)) n R := by
  simp only [evs]
  exact wp_bnd (wp_mono h fun _ _ h => wp_bnd (wp_mono h fun _ _ h => wp_ret h))
theorem wp_tup {es : Ex} (h : wp (evs cf es) n fun os n1 => wp (keeps os) n1 fun ds n2 => Both (ds.length ≤ sizeLine) (Q (.v (.tuple ds)) n2)) : wp (ev cf (.tup es)) n Q := by
  simp only [ev]
  exact wp_bnd (wp_mono h fun _ _ h => wp_bnd (wp_mono h fun _ _ h => wp_pos (wp_ret h.r) h.l))
theorem wp_lst {es : Ex} (h : wp (evs cf es) n fun os n1 => wp (keeps os) n1 fun ds n2 => Both (ds.length ≤ sizeLine) (Q (.f (.list ds)) n2)) : wp (ev cf (.lst es)) n Q := by
  simp only [ev]
  exact wp_bnd (wp_mono h fun _ _ h => wp_bnd (wp_mono h fun _ _ h => wp_pos (wp_ret h.r) h.l))
theorem wp_idx {a i : Ex} (h : wp (ev cf a) n fun x n1 => wp (ev cf i) n1 fun y n2 => wp (rd x) n2 fun d n3 => wp (rd y) n3 fun e n4 => wp (opt (idxD d e)) n4 fun g n5 => Q (.v g) n5) : wp (ev cf (.idx a i)) n Q := by
  simp only [ev]
  exact wp_bnd (wp_mono h fun _ _ h => wp_bnd (wp_mono h fun _ _ h => wp_bnd (wp_mono h fun _ _ h => wp_bnd (wp_mono h fun _ _ h => wp_bnd (wp_mono h fun _ _ h => wp_ret h)))))
theorem wp_slc {a lo hi : Ex} (h : wp (ev cf a) n fun x n1 => wp (match lo with | .nil => ret none | _ => bnd (ev cf lo) asInt) n1 fun l n2 => wp (match hi with | .nil => ret none | _ => bnd (ev cf hi) asInt) n2 fun u n3 => wp (rd x) n3 fun d n4 => wp (opt (slcD d l u)) n4 Q) : wp (ev cf (.slc a lo hi)) n Q := by
  simp only [ev]
  exact wp_bnd (wp_mono h fun _ _ h => wp_bnd (wp_mono h fun _ _ h => wp_bnd (wp_mono h fun _ _ h => wp_bnd h)))
theorem wp_asI {o : Opd} {R : Option Int → En → Prop} (h : wp (rd o) n fun d n1 => IntOk d fun i => R (some i) n1) : wp (asInt o) n R := wp_bnd (wp_mono h fun _ _ h => by cases h with | mk q => exact wp_ret q)
theorem wp_blt {b : Bf} {es : Ex} (h : wp (evs cf es) n fun os n1 => wp (rds os) n1 fun ds n2 => wp (opt (bltD b ds)) n2 Q) : wp (ev cf (.blt b es)) n Q := by
  simp only [ev]
  exact wp_bnd (wp_mono h fun _ _ h => wp_bnd h)
theorem wp_call {f : Nat} {io : List Bool} {es : Ex} (h : wp (evs cf es) n fun os n1 => wp (callM cf f io os) n1 Q) : wp (ev cf (.call f io es)) n Q := by
  simp only [ev]
  exact wp_bnd h
theorem wp_callM {f : Nat} {io : List Bool} {os : List Opd} {as fin : List Sl} {fr : Bool} {d : PyData} {n1 n2 : En} (hr : cf f as = .ok fr d fin) (h0 : (ioSl io os).Nodup ∧ ∀ i ∈ ioSl io os, i ∉ plSl io os) (h1 : argsOf n io os = some as) (h3 : backIO io os fin n = some n1) (h4 : freezeUnless (flatR (mkO fr d) && fin.all flatSl) (plSl io os) n1 = some n2) (q : Q (mkO fr d) n2) : wp (callM cf f io os) n Q := by
  refine ⟨mkO fr d, n2, ?_, q⟩
  unfold callM
  rw [if_pos h0, h1]
  simp only [hr, h3, h4]
theorem wp_mth {m : Mf} {o es : Ex} (h : wp (ev cf o) n fun x n1 => wp (rd x) n1 fun d n2 => Tagged m d fun t => wp (evs cf es) n2 fun os n3 => wp (mthM m t x os) n3 Q) : wp (ev cf (.mth m o es)) n Q := by
  simp only [ev]
  refine wp_bnd (wp_mono h fun _ _ h => wp_bnd (wp_mono h fun d _ h => ?_))
  cases h with
  | lst h => exact wp_pos (wp_bnd h) (by cases m <;> rfl)
  | tup ok h => exact wp_pos (wp_bnd h) ok
theorem wp_change {i : Nat} {p : Bool} {xs ys : List PyData} {r : PyData} {n2 : En} {f : List PyData → Option (PyData × List PyData)} (h : n[i]? = some (.own false p (.list xs))) (e : f xs = some (r, ys)) (s : SetAt n i (.own false p (.list ys)) n2) (q : Q (.v r) n2) : wp (change (.s i) f) n Q :=
  ⟨.v r, n2, by simp only [change, h, e, s.eq], q⟩
end
/-! statements -/
section
variable {Q : Flow → En → Prop}
theorem wp_nil (q : Q .next n) : wp (exec cf .nil) n Q := by simp only [exec]; exact wp_ret q
theorem wp_seq {s r : Sm} (h : wp (exec cf s) n fun f n' => match f with | .next => wp (exec cf r) n' Q | f => Q f n') : wp (exec cf (.seq s r)) n Q := by
  simp only [exec]
  refine wp_bnd (wp_mono h fun f n' h => ?_)
  cases f with
  | next => exact h
  | ret o => exact wp_ret h
  | brk => exact wp_ret h
  | cont => exact wp_ret h
/-- not a list that is walked or handed in -/
def openS : Sl → Bool
  | .own _ true _ => false
  | _ => true
def openAt (n : En) (i : Nat) : Bool := match n[i]? with
  | some s => openS s
  | none => true
theorem wp_putSl {i : Nat} {t : Sl} {n2 : En} {R : Unit → En → Prop} (s : SetAt n i t n2) (h : openAt n i = true) (q : R () n2) : wp (putSl i t) n R := by
  obtain ⟨x, hx⟩ := s.get
  refine ⟨(), n2, ?_, q⟩
  unfold openAt at h
  rw [hx] at h
  simp only [putSl, hx]
  cases x with
  | own l p d' => cases p with
    | true => cases h
    | false => simp only [s.eq]
  | _ => simp only [s.eq]
theorem wp_put_v {i : Nat} {d : PyData} {n2 : En} {R : Unit → En → Prop} (s : SetAt n i (.val d) n2) (h : openAt n i = true) (q : R () n2) : wp (put i (.v d)) n R := wp_putSl s h q
theorem wp_put_f {i : Nat} {d : PyData} {n2 : En} {R : Unit → En → Prop} (s : SetAt n i (.own false false d) n2) (h : openAt n i = true) (q : R () n2) : wp (put i (.f d)) n R := wp_putSl s h q
theorem wp_put_s {i j : Nat} {R : Unit → En → Prop} (h : wp (keep (.s j)) n fun d n1 => wp (put i (.v d)) n1 R) : wp (put i (.s j)) n R := wp_bnd h
theorem wp_asg {i : Nat} {e : Ex} (h : wp (ev cf e) n fun o n1 => wp (put i o) n1 fun _ n2 => Q .next n2) : wp (exec cf (.asg i e)) n Q := by
  simp only [exec]
  exact wp_bnd (wp_mono h fun _ _ h => wp_bnd (wp_mono h fun _ _ h => wp_ret h))
theorem wp_asgT {t : Tg} {e : Ex} (h : wp (ev cf e) n fun o n1 => wp (rd o) n1 fun d n2 => wp (setT t d) n2 fun _ n3 => Q .next n3) : wp (exec cf (.asgT t e)) n Q := by
  simp only [exec]
  exact wp_bnd (wp_mono h fun _ _ h => wp_bnd (wp_mono h fun _ _ h => wp_bnd (wp_mono h fun _ _ h => wp_ret h)))
theorem wp_par {is : List Nat} {es : Ex} (h : wp (evs cf es) n fun os n1 => wp (settles os) n1 fun ps n2 => wp (putAll is ps) n2 fun _ n3 => Q .next n3) : wp (exec cf (.par is es)) n Q := by
  simp only [exec]
  exact wp_bnd (wp_mono h fun _ _ h => wp_bnd (wp_mono h fun _ _ h => wp_bnd (wp_mono h fun _ _ h => wp_ret h)))
theorem wp_setI {a i e : Ex} (h : wp (ev cf e) n fun v n1 => wp (keep v) n1 fun d n2 => wp (ev cf a) n2 fun x n3 => wp (ev cf i) n3 fun y n4 => wp (rd y) n4 fun k n5 => wp (setAt x k d) n5 fun _ n6 => Q .next n6) : wp (exec cf (.setI a i e)) n Q := by
  simp only [exec]
  exact wp_bnd (wp_mono h fun _ _ h => wp_bnd (wp_mono h fun _ _ h => wp_bnd (wp_mono h fun _ _ h => wp_bnd (wp_mono h fun _ _ h => wp_bnd (wp_mono h fun _ _ h => wp_bnd (wp_mono h fun _ _ h => wp_ret h))))))
theorem wp_aug {op : Operator} {i : Nat} {e : Ex} (h : wp (rd (.s i)) n fun _ n0 => wp (ev cf e) n0 fun o n1 => wp (rd (.s i)) n1 fun d n2 => wp (rd o) n2 fun g n3 => wp (opt (augD op d g)) n3 fun r n4 => wp (putSl i (.val r)) n4 fun _ n5 => Q .next n5) : wp (exec cf (.aug op i e)) n Q := by
  simp only [exec]
  exact wp_bnd (wp_mono h fun _ _ h => wp_bnd (wp_mono h fun _ _ h => wp_bnd (wp_bnd (wp_mono h fun _ _ h => wp_bnd (wp_mono h fun _ _ h => wp_bnd (wp_mono h fun _ _ h => wp_mono h fun _ _ h => wp_ret h))))))
theorem wp_exp {e : Ex} (h : wp (ev cf e) n fun _ n1 => Q .next n1) : wp (exec cf (.exp e)) n Q := by
  simp only [exec]
  exact wp_bnd (wp_mono h fun _ _ h => wp_ret h)
theorem wp_retS {e : Ex} (h : wp (ev cf e) n fun o n1 => Q (.ret o) n1) : wp (exec cf (.ret e)) n Q := by
  simp only [exec]
  exact wp_bnd (wp_mono h fun _ _ h => wp_ret h)
theorem wp_retN (h : Q (.ret (.v .none)) n) : wp (exec cf .retN) n Q := by simp only [exec]; exact wp_ret h
theorem wp_ifS {c : Ex} {a b : Sm} (h : wp (ev cf c) n fun x n1 => wp (truM x) n1 fun t n2 => wp (if t = true then exec cf a else exec cf b) n2 Q) : wp (exec cf (.ife c a b)) n Q := by
  simp only [exec]
  exact wp_bnd (wp_bnd (wp_mono h fun _ _ h => wp_mono h fun _ _ h => h))
theorem wp_pass (h : Q .next n) : wp (exec cf .pass) n Q := by simp only [exec]; exact wp_ret h
theorem wp_brk (h : Q .brk n) : wp (exec cf .brk) n Q := by simp only [exec]; exact wp_ret h
theorem wp_cont (h : Q .cont n) : wp (exec cf .cont) n Q := by simp only [exec]; exact wp_ret h
theorem wp_for {tg : Tg} {k : Ik} {its : Ex} {b : Sm} (h : wp (evs cf its) n fun os n1 => wp (walk k os) n1 fun w n2 => wp (locked w.2 (turnsF (fun x => bnd (setT tg x) fun _ => exec cf b) w.1)) n2 Q) : wp (exec cf (.forr tg k its b)) n Q := by
  simp only [exec]
  exact wp_bnd (wp_bnd (wp_mono h fun _ _ h => wp_mono h fun _ _ h => h))
theorem wp_locked {m : M α} {R : α → En → Prop} {src : List Nat} {n1 : En} (h : lock src n = some n1) (q : wp m n1 fun a n' => R a (unlock n src n')) : wp (locked src m) n R := by
  obtain ⟨a, n', e, q⟩ := q
  exact ⟨a, _, by simp only [locked, h, e, Res.mapN], q⟩
/-- a list walked is free again -/
inductive UnLk (i : Nat) (p : Bool) (n : En) (R : En → Prop) : Prop
  | mk {d : PyData} {n2 : En} (h : n[i]? = some (.own true p d)) (s : SetAt n i (.own false p d) n2) (r : R n2) : UnLk i p n R
theorem wp_lock0 {m : M α} {R : α → En → Prop} (q : wp m n R) : wp (locked [] m) n R := wp_locked rfl q
theorem wp_lockF {m : M α} {R : α → En → Prop} {i : Nat} {p : Bool} {d : PyData} {n1 : En} (h : n[i]? = some (.own false p d)) (s : SetAt n i (.own true p d) n1) (q : wp m n1 fun a n' => UnLk i p n' (R a)) : wp (locked [i] m) n R := by
  refine wp_locked (n1 := n1) ?_ (wp_mono q fun a n' hU => ?_)
  · simp only [lock, h, s.eq]
  · obtain ⟨h1, h2, h3⟩ := hU
    rename_i d' n2
    have e : unlock n [i] n' = n2 := by
      show unlock1 (wasFree n i) i n' = _
      simp only [unlock1, wasFree, h, if_true, h1, h2.eq]
    rw [e]
    exact h3
theorem set_same {i : Nat} {x : Sl} (h : n[i]? = some x) : n.set i x = n := by
  obtain ⟨hl, rfl⟩ := List.getElem?_eq_some_iff.mp h
  exact List.set_getElem_self hl
theorem wp_lockL {m : M α} {R : α → En → Prop} {i : Nat} {p : Bool} {d : PyData} (h : n[i]? = some (.own true p d)) (q : wp m n R) : wp (locked [i] m) n R := by
  refine wp_locked (n1 := n) ?_ (wp_mono q fun a n' q => ?_)
  · simp only [lock, h, set_same h]
  · have e : unlock n [i] n' = n' := by
      show unlock1 (wasFree n i) i n' = _
      simp only [unlock1, wasFree, h]
      rfl
    rw [e]
    exact q
theorem wp_turnsF {f : PyData → M Flow} {xs : List PyData} (I : List PyData → En → Prop) (h0 : I [] n)
    (hs : ∀ done x rest n, xs = done ++ x :: rest → I done n → wp (f x) n fun fl n' => match fl with | .next => I (done ++ [x]) n' | .cont => I (done ++ [x]) n' | .brk => Q .next n' | .ret o => Q (.ret o) n') (he : ∀ n, I xs n → Q .next n) : wp (turnsF f xs) n Q := by
  have go : ∀ (rest done : List PyData) (n : En), xs = done ++ rest → I done n → wp (turnsF f rest) n Q := by
    intro rest
    induction rest with
    | nil =>
      intro done n e hI
      rw [List.append_nil] at e
      subst e
      exact wp_ret (he n hI)
    | cons x rest ih =>
      intro done n e hI
      refine wp_bnd (wp_mono (hs done x rest n e hI) fun fl n' h => ?_)
      cases fl with
      | next => exact ih (done ++ [x]) n' (by rw [e, List.append_assoc]; rfl) h
      | cont => exact ih (done ++ [x]) n' (by rw [e, List.append_assoc]; rfl) h
      | brk => exact wp_ret h
      | ret o => exact wp_ret h
  exact go xs [] n rfl h0
/-- the items are images -/
theorem wp_forT {T : Type} {f : PyData → M Flow} {ts : List T} {enc : T → PyData} (I : List T → En → Prop) (h0 : I [] n)
    (hs : ∀ done x rest n, ts = done ++ x :: rest → I done n → wp (f (enc x)) n fun fl n' => match fl with | .next => I (done ++ [x]) n' | .cont => I (done ++ [x]) n' | .brk => Q .next n' | .ret o => Q (.ret o) n') (he : ∀ n, I ts n → Q .next n) : wp (turnsF f (ts.map enc)) n Q := by
  have go : ∀ (rest done : List T) (n : En), ts = done ++ rest → I done n → wp (turnsF f (rest.map enc)) n Q := by
    intro rest
    induction rest with
    | nil =>
      intro done n e hI
      rw [List.append_nil] at e
      subst e
      exact wp_ret (he n hI)
    | cons x rest ih =>
      intro done n e hI
      refine wp_bnd (wp_mono (hs done x rest n e hI) fun fl n' h => ?_)
      cases fl with
      | next => exact ih (done ++ [x]) n' (by rw [e, List.append_assoc]; rfl) h
      | cont => exact ih (done ++ [x]) n' (by rw [e, List.append_assoc]; rfl) h
      | brk => exact wp_ret h
      | ret o => exact wp_ret h
  exact go ts [] n rfl h0
/-- range(m): the invariant is told by number -/
theorem wp_forN {f : PyData → M Flow} {m : Nat} (I : Nat → En → Prop) (h0 : I 0 n)
    (hs : ∀ k n, k < m → I k n → wp (f (.int (k : Int))) n fun fl n' => match fl with | .next => I (k + 1) n' | .cont => I (k + 1) n' | .brk => Q .next n' | .ret o => Q (.ret o) n') (he : ∀ n, I m n → Q .next n) : wp (turnsF f ((List.range m).map fun (k : Nat) => PyData.int (k : Int))) n Q := by
  refine wp_forT (T := Nat) (fun l n => l = List.range l.length ∧ I l.length n) ⟨rfl, h0⟩ (fun done x rest n e h => ?_) fun n h => ?_
  · obtain ⟨h1, h2⟩ := h
    have hl : done.length < m := by
      have := congrArg List.length e
      simp at this
      omega
    have hx : x = done.length := by
      have h3 : (List.range m)[done.length]? = some x := by rw [e]; simp
      rw [List.getElem?_range hl] at h3
      exact (Option.some.inj h3).symm
    subst hx
    have e2 : done ++ [done.length] = List.range (done ++ [done.length]).length := by
      conv => lhs; rw [h1]
      simp [List.range_succ]
    refine wp_mono (hs done.length n hl h2) fun fl n' h => ?_
    have e3 : (done ++ [done.length]).length = done.length + 1 := by simp
    cases fl with
    | next => exact ⟨e2, by rw [e3]; exact h⟩
    | cont => exact ⟨e2, by rw [e3]; exact h⟩
    | brk => exact h
    | ret o => exact h
  · exact he n (by have := h.2; rwa [List.length_range] at this)
theorem wp_whl {c : Ex} {b : Sm} (I : Nat → En → Prop) (m : Nat) (hm : m < fuel) (h0 : I m n)
    (hs : ∀ k n, I k n → wp (bnd (ev cf c) truM) n fun t n1 => if t = true then wp (exec cf b) n1 fun fl n' => match fl with | .next => ∃ j, j < k ∧ I j n' | .cont => ∃ j, j < k ∧ I j n' | .brk => Q .next n' | .ret o => Q (.ret o) n' else Q .next n1) : wp (exec cf (.whl c b)) n Q := by
  simp only [exec]
  have go : ∀ (u k : Nat) (n : En), k < u → I k n → wp (whileF (bnd (ev cf c) truM) (exec cf b) u) n Q := by
    intro u
    induction u with
    | zero => intro k n h; omega
    | succ u ih =>
      intro k n hk hI
      refine wp_bnd (wp_mono (hs k n hI) fun t n1 h => ?_)
      cases t with
      | false => exact wp_ret h
      | true =>
        refine wp_bnd (wp_mono h fun fl n' h => ?_)
        cases fl with
        | next => obtain ⟨j, hj, h⟩ := h; exact ih j n' (by omega) h
        | cont => obtain ⟨j, hj, h⟩ := h; exact ih j n' (by omega) h
        | brk => exact wp_ret h
        | ret o => exact wp_ret h
  exact go fuel m n hm h0
end
/-! comprehensions -/
theorem wp_turns {T : Type} {f : PyData → M (List PyData)} {ts : List T} {enc : T → PyData} {R : List PyData → En → Prop} (I : List T → List PyData → En → Prop) (h0 : I [] [] n)
    (hs : ∀ done acc x rest n, ts = done ++ x :: rest → I done acc n → wp (f (enc x)) n fun r n' => I (done ++ [x]) (acc ++ r) n') (he : ∀ acc n, I ts acc n → R acc n) : wp (turns f (ts.map enc)) n R := by
  have go : ∀ (rest done : List T) (acc : List PyData) (n : En), ts = done ++ rest → I done acc n → wp (turns f (rest.map enc)) n fun r n' => R (acc ++ r) n' := by
    intro rest
    induction rest with
    | nil =>
      intro done acc n e hI
      rw [List.append_nil] at e
      subst e
      exact wp_ret (by rw [List.append_nil]; exact he acc n hI)
    | cons x rest ih =>
      intro done acc n e hI
      refine wp_bnd (wp_mono (hs done acc x rest n e hI) fun r n' h => wp_bnd (wp_mono (ih (done ++ [x]) (acc ++ r) n' (by rw [e, List.append_assoc]; rfl) h) fun r2 n2 h => wp_ret ?_))
      rw [← List.append_assoc]
      exact h
  have := go ts [] [] n rfl h0
  simpa using this
theorem wpN_len (n : En) : ∀ own : List Nat, (wipeN n own).length = n.length
  | [] => rfl
  | i :: is => by rw [wipeN, List.length_set, wpN_len n is]
theorem bkN_len (n0 n : En) : ∀ own : List Nat, (backN n0 n own).length = n.length
  | [] => rfl
  | i :: is => by rw [backN, List.length_set, bkN_len n0 n is]
theorem wpN_get (n : En) (j : Nat) : ∀ own : List Nat, (wipeN n own)[j]? = if j ∈ own then n[j]?.map fun _ => Sl.emp else n[j]?
  | [] => by simp [wipeN]
  | i :: is => by
    have ih := wpN_get n j is
    rw [wipeN, List.getElem?_set, wpN_len]
    by_cases h : i = j
    · subst h
      rw [if_pos rfl, if_pos (List.mem_cons_self ..)]
      by_cases hl : i < n.length
      · rw [if_pos hl, List.getElem?_eq_getElem hl]; rfl
      · rw [if_neg hl, List.getElem?_eq_none (by omega)]; rfl
    · rw [if_neg h, ih]
      by_cases hm : j ∈ is
      · rw [if_pos hm, if_pos (List.mem_cons_of_mem _ hm)]
      · rw [if_neg hm, if_neg (fun z => by rcases List.mem_cons.mp z with z | z; exact h z.symm; exact hm z)]
theorem bkN_get (n0 n : En) (j : Nat) : ∀ own : List Nat, (backN n0 n own)[j]? = if j ∈ own then n[j]?.map fun _ => n0[j]?.getD .emp else n[j]?
  | [] => by simp [backN]
  | i :: is => by
    have ih := bkN_get n0 n j is
    rw [backN, List.getElem?_set, bkN_len]
    by_cases h : i = j
    · subst h
      rw [if_pos rfl, if_pos (List.mem_cons_self ..)]
      by_cases hl : i < n.length
      · rw [if_pos hl, List.getElem?_eq_getElem hl]; rfl
      · rw [if_neg hl, List.getElem?_eq_none (l := n) (by omega)]; rfl
    · rw [if_neg h, ih]
      by_cases hm : j ∈ is
      · rw [if_pos hm, if_pos (List.mem_cons_of_mem _ hm)]
      · rw [if_neg hm, if_neg (fun z => by rcases List.mem_cons.mp z with z | z; exact h z.symm; exact hm z)]
theorem wipeN_twice (n : En) (own : List Nat) : wipeN (wipeN n own) own = wipeN n own := by
  apply List.ext_getElem?
  intro j
  rw [wpN_get, wpN_get]
  by_cases h : j ∈ own
  · simp only [h, if_true]; cases n[j]? <;> rfl
  · simp only [h, if_false]
theorem bkN_of {n0 n : En} {own : List Nat} (h : wipeN n own = wipeN n0 own) : backN n0 n own = n0 := by
  apply List.ext_getElem?
  intro j
  have hj : (wipeN n own)[j]? = (wipeN n0 own)[j]? := by rw [h]
  rw [wpN_get, wpN_get] at hj
  rw [bkN_get]
  by_cases hm : j ∈ own
  · simp only [hm, if_true] at hj ⊢
    cases h1 : n[j]? with
    | none => rw [h1] at hj; cases h2 : n0[j]? with
      | none => rfl
      | some y => rw [h2] at hj; cases hj
    | some x => rw [h1] at hj; cases h2 : n0[j]? with
      | none => rw [h2] at hj; cases hj
      | some y => rfl
  · simp only [hm, if_false] at hj ⊢
    exact hj
theorem wp_comp {own : List Nat} {tg : Tg} {k : Ik} {its ifs elt : Ex} {Q : Opd → En → Prop} (h : wp (evs cf its) n fun os n1 => wp (walk k os) n1 fun w n2 => wp (locked w.2 (block own (turns (fun x => inBlock own (bnd (setT tg x) fun _ => bnd (tst cf ifs) fun t =>
      if t = true then bnd (ev cf elt) fun o => bnd (keep o) fun d => ret [d] else ret [])) w.1))) n2 fun ds n3 => Q (.f (.list ds)) n3) : wp (ev cf (.comp own tg k its ifs elt)) n Q := by
  simp only [ev]
  exact wp_bnd (wp_bnd (wp_mono h fun _ _ h => wp_mono h fun _ _ h => wp_bnd (wp_mono h fun _ _ h => wp_ret h)))
theorem wp_comp2 {own own1 : List Nat} {tg tg1 : Tg} {k k1 : Ik} {its ifs its1 ifs1 elt : Ex} {Q : Opd → En → Prop} (h : wp (evs cf its) n fun os n1 => wp (walk k os) n1 fun w n2 => wp (locked w.2 (block own (turns (fun x => inBlock own (bnd (setT tg x) fun _ => bnd (tst cf ifs) fun t =>
      if t = true then bnd (bnd (evs cf its1) (walk k1)) fun w1 => locked w1.2 (turns (fun y => inBlock own1 (bnd (setT tg1 y) fun _ => bnd (tst cf ifs1) fun t1 =>
        if t1 = true then bnd (ev cf elt) fun o => bnd (keep o) fun d => ret [d] else ret [])) w1.1) else ret [])) w.1))) n2 fun ds n3 => Q (.f (.list ds)) n3) : wp (ev cf (.comp2 own own1 tg k its ifs tg1 k1 its1 ifs1 elt)) n Q := by
  simp only [ev]
  exact wp_bnd (wp_bnd (wp_mono h fun _ _ h => wp_mono h fun _ _ h => wp_bnd (wp_mono h fun _ _ h => wp_ret h)))
section
variable {T : Type} {own : List Nat} {body : PyData → M (List PyData)} {ts : List T} {enc : T → PyData} {R : List PyData → En → Prop}
/-- the names wiped -/
inductive Wiped : List Nat → En → En → Prop
  | nil {n : En} : Wiped [] n n
  | cons {i : Nat} {is : List Nat} {n n1 n2 : En} (h : Wiped is n n1) (s : SetAt n1 i .emp n2) : Wiped (i :: is) n n2
theorem Wiped.eq {is : List Nat} {n n2 : En} (h : Wiped is n n2) : wipeN n is = n2 := by
  induction h with
  | nil => rfl
  | cons _ s ih => rw [wipeN, ih, s.eq]
theorem wp_block (I : List T → List PyData → En → Prop) (hf : own.all (freeSl n) = true) (h0 : I [] [] n)
    (hs : ∀ done acc x rest n', ts = done ++ x :: rest → I done acc n' → wp (body (enc x)) (wipeN n' own) fun r n2 => I (done ++ [x]) (acc ++ r) n2)
    (he : ∀ acc n', I ts acc n' → acc.length ≤ sizeLine ∧ R acc (backN n n' own)) : wp (block own (turns (fun x => inBlock own (body x)) (ts.map enc))) n R := by
  obtain ⟨a, n', e, h1, h2⟩ := wp_turns (f := fun x => inBlock own (body x)) (R := fun acc n' => acc.length ≤ sizeLine ∧ R acc (backN n n' own)) I h0 (fun done acc x rest n' e h => hs done acc x rest n' e h) he
  exact ⟨a, _, by simp only [block, hf, if_true, e, h1], h2⟩
/-- the block changes its own names alone -/
theorem wp_blockP {n0 : En} (g : T → List PyData) (hf : own.all (freeSl n) = true) (w : Wiped own n n0) (hs : ∀ x ∈ ts, wp (body (enc x)) n0 fun r n2 => r = g x ∧ Wiped own n2 n0) (hl : (ts.flatMap g).length ≤ sizeLine) (q : R (ts.flatMap g) n) :
    wp (block own (turns (fun x => inBlock own (body x)) (ts.map enc))) n R := by
  refine wp_block (fun done acc n' => acc = done.flatMap g ∧ wipeN n' own = wipeN n own) hf ⟨rfl, rfl⟩ (fun done acc x rest n' e h => ?_) fun acc n' h => ?_
  · obtain ⟨h1, h2⟩ := h
    rw [h2, w.eq]
    refine wp_mono (hs x (by rw [e]; simp)) fun r n2 h => ⟨?_, by rw [h.2.eq]⟩
    rw [h1, h.1]
    simp
  · rw [h.1, bkN_of h.2]
    exact ⟨hl, q⟩
theorem wp_blockM {n0 : En} (e : T → PyData) (hf : own.all (freeSl n) = true) (w : Wiped own n n0) (hs : ∀ x ∈ ts, wp (body (enc x)) n0 fun r n2 => r = [e x] ∧ Wiped own n2 n0) (q : R (ts.map e) n) (hl : ts.length ≤ sizeLine) :
    wp (block own (turns (fun x => inBlock own (body x)) (ts.map enc))) n R := by
  have e2 : ts.flatMap (fun x => [e x]) = ts.map e := by
    clear hs hl q
    induction ts with
    | nil => rfl
    | cons x xs ih => rw [List.flatMap_cons, ih]; rfl
  exact wp_blockP (fun x => [e x]) hf w hs (by rw [e2, List.length_map]; exact hl) (by rw [e2]; exact q)
theorem wp_blockF {n0 : En} (p : T → Bool) (e : T → PyData) (hf : own.all (freeSl n) = true) (w : Wiped own n n0) (hs : ∀ x ∈ ts, wp (body (enc x)) n0 fun r n2 => r = (if p x = true then [e x] else []) ∧ Wiped own n2 n0) (q : R ((ts.filter p).map e) n) (hl : ts.length ≤ sizeLine) :
    wp (block own (turns (fun x => inBlock own (body x)) (ts.map enc))) n R := by
  have e2 : ts.flatMap (fun x => if p x = true then [e x] else []) = (ts.filter p).map e := by
    clear hs hl q
    induction ts with
    | nil => rfl
    | cons x xs ih =>
      rw [List.flatMap_cons, ih, List.filter_cons]
      by_cases h : p x = true
      · rw [if_pos h, if_pos h]; rfl
      · rw [if_neg h, if_neg h]; rfl
  exact wp_blockP (fun x => if p x = true then [e x] else []) hf w hs (by rw [e2, List.length_map]; exact Nat.le_trans (List.length_filter_le ..) hl) (by rw [e2]; exact q)
/-- the inner turns of two for -/
theorem wp_turnsP {n0 : En} (g : T → List PyData) (w : Wiped own n n0) (hs : ∀ x ∈ ts, wp (body (enc x)) n0 fun r n2 => r = g x ∧ Wiped own n2 n0) (q : ∀ n', wipeN n' own = n0 → R (ts.flatMap g) n') :
    wp (turns (fun x => inBlock own (body x)) (ts.map enc)) n R := by
  refine wp_turns (fun done acc n' => acc = done.flatMap g ∧ wipeN n' own = wipeN n own) ⟨rfl, rfl⟩ (fun done acc x rest n' e h => ?_) fun acc n' h => ?_
  · obtain ⟨h1, h2⟩ := h
    show wp (body (enc x)) (wipeN n' own) _
    rw [h2, w.eq]
    refine wp_mono (hs x (by rw [e]; simp)) fun r n2 h => ⟨?_, by rw [h.2.eq]⟩
    rw [h1, h.1]
    simp
  · rw [h.1]
    exact q n' (by rw [h.2, w.eq])
end
theorem wp_tst0 {R : Bool → En → Prop} (q : R true n) : wp (tst cf .nil) n R := by simp only [tst]; exact wp_ret q
theorem wp_tst {e r : Ex} {R : Bool → En → Prop} (h : wp (ev cf e) n fun o n1 => wp (truM o) n1 R) : wp (tst cf (.cons e r)) n R := by simp only [tst]; exact wp_bnd h
theorem wp_nm {i : Nat} {d : PyData} {R : Unit → En → Prop} (h : wp (putSl i (.val d)) n R) : wp (setT (.nm i) d) n R := by simp only [setT]; exact h
theorem wp_tu {ts : Tg} {xs : List PyData} {R : Unit → En → Prop} (h : wp (setTs ts xs) n R) : wp (setT (.tu ts) (.tuple xs)) n R := by simp only [setT]; exact h
theorem wp_ts0 {R : Unit → En → Prop} (q : R () n) : wp (setTs .nil []) n R := by simp only [setTs]; exact wp_ret q
theorem wp_ts {t ts : Tg} {x : PyData} {xs : List PyData} {R : Unit → En → Prop} (h : wp (setT t x) n fun _ n1 => wp (setTs ts xs) n1 R) : wp (setTs (.cons t ts) (x :: xs)) n R := by simp only [setTs]; exact wp_bnd h
/-! what is walked -/
section
variable {R : List PyData × List Nat → En → Prop} {xs : List PyData}
theorem wp_wkvt (q : R (xs, []) n) : wp (walk .plain [.v (.tuple xs)]) n R := ⟨_, _, rfl, q⟩
theorem wp_wkvl (q : R (xs, []) n) : wp (walk .plain [.v (.list xs)]) n R := ⟨_, _, rfl, q⟩
theorem wp_wkfl (q : R (xs, []) n) : wp (walk .plain [.f (.list xs)]) n R := ⟨_, _, rfl, q⟩
theorem wp_wks {i : Nat} {l p : Bool} (h : n[i]? = some (.own l p (.list xs))) (q : R (xs, [i]) n) : wp (walk .plain [.s i]) n R := ⟨_, n, by simp only [walk, bnd, rd, h, walkD, opt, ret, srcOf], q⟩
theorem small_nat {b : Nat} (h : b < 2 ^ 62) : small62 (b : Int) = true := by
  unfold small62
  simp only [Bool.and_eq_true, decide_eq_true_eq]
  omega
theorem rng_nat (b : Nat) : rng 0 (b : Int) = (List.range b).map fun (k : Nat) => PyData.int (k : Int) := by
  unfold rng
  rw [Int.sub_zero, Int.toNat_natCast]
  exact List.map_congr_left fun k _ => by rw [Int.zero_add]
theorem rng_nat2 (a b : Nat) : rng (a : Int) (b : Int) = (List.range (b - a)).map fun (k : Nat) => PyData.int ((a + k : Nat) : Int) := by
  unfold rng
  have e : ((b : Int) - (a : Int)).toNat = b - a := by omega
  rw [e]
  exact List.map_congr_left fun k _ => by rw [Int.natCast_add]
theorem wkr1 (z : Int) (n : En) : walk .range1 [.v (.int z)] n = (if small62 z = true then ret (rng 0 z, []) else no) n := by
  simp only [walk, rds, bnd, rd, ret]
theorem wkr1' (z : Int) (n : En) (h : small62 z = true) : walk .range1 [.v (.int z)] n = .ok (rng 0 z, []) n := by
  rw [wkr1, if_pos h]
theorem wkr2 (y z : Int) (n : En) : walk .range2 [.v (.int y), .v (.int z)] n = (if (small62 y && small62 z) = true then ret (rng y z, []) else no) n := by
  simp only [walk, rds, bnd, rd, ret]
theorem wkr2' (y z : Int) (n : En) (h : small62 y = true) (h2 : small62 z = true) : walk .range2 [.v (.int y), .v (.int z)] n = .ok (rng y z, []) n := by
  rw [wkr2, if_pos (by rw [h, h2]; rfl)]
theorem wp_r1 {i : Int} {b : Nat} (q : R ((List.range b).map fun (k : Nat) => PyData.int (k : Int), []) n) (e : i = (b : Int)) (hb : b < 2 ^ 62) : wp (walk .range1 [.v (.int i)]) n R := by
  subst e
  rw [← rng_nat] at q
  exact ⟨_, n, wkr1' _ n (small_nat hb), q⟩
theorem wp_r2 {i j : Int} {a b : Nat} (q : R ((List.range (b - a)).map fun (k : Nat) => PyData.int ((a + k : Nat) : Int), []) n) (e : i = (a : Int)) (e2 : j = (b : Int)) (ha : a < 2 ^ 62) (hb : b < 2 ^ 62) : wp (walk .range2 [.v (.int i), .v (.int j)]) n R := by
  subst e e2
  rw [← rng_nat2] at q
  exact ⟨_, n, wkr2' _ _ n (small_nat ha) (small_nat hb), q⟩
end
/-! ### operations -/
section
variable {R : Opd → En → Prop} {i j : Int} {xs ys : List PyData}
theorem o_add (q : R (.v (.int (i + j))) n) : wp (opt (binD .Add (.int i) (.int j))) n R := wp_opt rfl q
theorem o_sub (q : R (.v (.int (i - j))) n) : wp (opt (binD .Sub (.int i) (.int j))) n R := wp_opt rfl q
theorem mul_ok (h : (-(2 ^ 64) < i ∧ i < 2 ^ 64) ∨ (-(2 ^ 64) < j ∧ j < 2 ^ 64)) : mulOk i j = true := by
  unfold mulOk
  simp only [Bool.or_eq_true, Bool.and_eq_true, decide_eq_true_eq]
  exact h
theorem o_mul (q : R (.v (.int (i * j))) n) (h : (-(2 ^ 64) < i ∧ i < 2 ^ 64) ∨ (-(2 ^ 64) < j ∧ j < 2 ^ 64)) : wp (opt (binD .Mult (.int i) (.int j))) n R := by
  refine wp_opt (a := .v (.int (i * j))) ?_ q
  simp only [binD, binI, if_pos (mul_ok h), Option.map]
theorem o_div (q : R (.v (.int (i.fdiv j))) n) (h : j ≠ 0 ∧ j.natAbs < 1073741824) : wp (opt (binD .FloorDiv (.int i) (.int j))) n R := by
  refine wp_opt (a := .v (.int (i.fdiv j))) ?_ q
  simp only [binD, binI, if_pos h, Option.map]
theorem o_mod (q : R (.v (.int (i.fmod j))) n) (h : j ≠ 0) : wp (opt (binD .Mod (.int i) (.int j))) n R := by
  refine wp_opt (a := .v (.int (i.fmod j))) ?_ q
  simp only [binD, binI, if_pos h, Option.map]
theorem o_addT (q : R (.v (.tuple (xs ++ ys))) n) (h : xs.length + ys.length ≤ sizeLine) : wp (opt (binD .Add (.tuple xs) (.tuple ys))) n R := by
  refine wp_opt (a := .v (.tuple (xs ++ ys))) ?_ q
  unfold binD
  exact if_pos h
theorem o_addL (q : R (.f (.list (xs ++ ys))) n) (h : xs.length + ys.length ≤ sizeLine) : wp (opt (binD .Add (.list xs) (.list ys))) n R := by
  refine wp_opt (a := .f (.list (xs ++ ys))) ?_ q
  unfold binD
  exact if_pos h
theorem o_mulL (q : R (.f (.list (List.replicate i.toNat xs).flatten)) n) (h : -(2 ^ 63) ≤ i ∧ i < 2 ^ 63 ∧ xs.length * i.toNat ≤ sizeLine) : wp (opt (binD .Mult (.list xs) (.int i))) n R := by
  refine wp_opt (a := .f (.list (List.replicate i.toNat xs).flatten)) ?_ q
  unfold binD
  exact if_pos h
end
section
variable {R : Bool → En → Prop} {i j : Int}
theorem beq_dec (i j : Int) : (i == j) = decide (i = j) := by
  by_cases h : i = j <;> simp [h]
theorem ok_int (i : Int) : dok (.int i) = true := by first | rfl | (unfold dok; simp [PyData.plain, PyData.depth])
theorem cp_eq (q : R (decide (i = j)) n) : wp (opt (cmpD .Eq (.int i) (.int j))) n R := by
  refine wp_opt (a := decide (i = j)) ?_ q
  simp [cmpD, ok_int, PyData.eqv, beq_dec]
theorem cp_ne (q : R (decide (i ≠ j)) n) : wp (opt (cmpD .NotEq (.int i) (.int j))) n R := by
  refine wp_opt (a := decide (i ≠ j)) ?_ q
  simp [cmpD, ok_int, PyData.eqv, beq_dec]
theorem ltOk_int : ltOk (.int i) (.int j) = true := by simp [ltOk, ok_int, W.alike, notNone]
theorem cp_lt (q : R (decide (i < j)) n) : wp (opt (cmpD .Lt (.int i) (.int j))) n R := by
  refine wp_opt (a := decide (i < j)) ?_ q
  simp [cmpD, ltOk_int, W.dataLt_int]
theorem cp_gt (q : R (decide (i > j)) n) : wp (opt (cmpD .Gt (.int i) (.int j))) n R := by
  refine wp_opt (a := decide (i > j)) ?_ q
  simp [cmpD, ltOk_int, W.dataLt_int]
theorem cp_le (q : R (decide (i ≤ j)) n) : wp (opt (cmpD .LtE (.int i) (.int j))) n R := by
  refine wp_opt (a := decide (i ≤ j)) ?_ q
  simp only [cmpD, ltOk_int, W.dataLt_int, if_true]
  by_cases h : i ≤ j <;> simp [h] <;> omega
theorem cp_ge (q : R (decide (i ≥ j)) n) : wp (opt (cmpD .GtE (.int i) (.int j))) n R := by
  refine wp_opt (a := decide (i ≥ j)) ?_ q
  simp only [cmpD, ltOk_int, W.dataLt_int, if_true]
  by_cases h : i ≥ j <;> simp [h] <;> omega
theorem tr_b {b : Bool} (q : R b n) : wp (opt (tru (.bool b))) n R := wp_opt rfl q
theorem cp_is {d : PyData} {b : Bool} (h : (match d with | .none => true | _ => false) = b) (q : R b n) : wp (opt (cmpD .Is d .none)) n R := by
  subst h
  exact wp_opt rfl q
theorem cp_isn {d : PyData} {b : Bool} (h : (match d with | .none => false | _ => true) = b) (q : R b n) : wp (opt (cmpD .IsNot d .none)) n R := by
  subst h
  exact wp_opt rfl q
end
end
end DM
set_option Elab.async false
set_option linter.all false
set_option maxRecDepth 100000
/-! DMW: calls told by their body; the helpers that stand in each law. -/
namespace DM
open PySem
section
variable {α : Type} {cf : Cf} {n : En} {p : List Fn} {k i : Nat} {fn : Fn} {as fin : List Sl} {fr : Bool} {d : PyData}
theorem run_wp {n0 : En} (hp : p[i]? = some fn) (hf : fitA fn.io as = true) (hl : fn.io.length ≤ fn.nl) (hn : as ++ List.replicate (fn.nl - fn.io.length) .emp = n0) (h : wp (exec (run p k) fn.body) n0 fun fl n' => finish fn.io (.ok fl n') = .ok fr d fin) : run p (k + 1) i as = .ok fr d fin := by
  subst hn
  obtain ⟨fl, n', e, q⟩ := h
  simp only [run, hp, hf, hl, decide_true, Bool.and_self, if_true, e]
  exact q
theorem run_ex {n0 : En} {R : Bool → PyData → List Sl → Prop} (hp : p[i]? = some fn) (hf : fitA fn.io as = true) (hl : fn.io.length ≤ fn.nl) (hn : as ++ List.replicate (fn.nl - fn.io.length) .emp = n0) (h : wp (exec (run p k) fn.body) n0 fun fl n' => ∃ fr d fin, finish fn.io (.ok fl n') = .ok fr d fin ∧ R fr d fin) : ∃ fr d fin, run p (k + 1) i as = .ok fr d fin ∧ R fr d fin := by
  subst hn
  obtain ⟨fl, n', e, fr, d, fin, q, r⟩ := h
  refine ⟨fr, d, fin, ?_, r⟩
  simp only [run, hp, hf, hl, decide_true, Bool.and_self, if_true, e]
  exact q
theorem wp_seqI {s r : Sm} {Q : Flow → En → Prop} (I : En → Prop) (h1 : wp (exec cf s) n fun fl n' => match fl with | .next => I n' | f => Q f n') (h2 : ∀ n', I n' → wp (exec cf r) n' Q) : wp (exec cf (.seq s r)) n Q := by
  refine wp_seq (wp_mono h1 fun fl n' h => ?_)
  cases fl with
  | next => exact h2 n' h
  | ret o => exact h
  | brk => exact h
  | cont => exact h
theorem wp_setAt {i : Nat} {p : Bool} {xs : List PyData} {j : Nat} {k : Int} {d : PyData} {n2 : En} {R : Unit → En → Prop} (h : n[i]? = some (.own false p (.list xs))) (e : L2.ixN xs.length k = some j) (s : SetAt n i (.own false p (.list (xs.set j d))) n2) (q : R () n2) : wp (setAt (.s i) (.int k) d) n R := by
  have hd : dictAt (.s i) n = false := by simp only [dictAt, h]
  have e2 : setAt (.s i) (.int k) d n = setL (.s i) k d n := by
    show (if dictAt (.s i) n = true then _ else _) = _
    rw [hd]
    rfl
  obtain ⟨a, n', h1, h2⟩ : wp (setL (.s i) k d) n R := wp_bnd (wp_change h (r := .none) (by rw [e]) s (wp_ret q))
  exact ⟨a, n', e2.trans h1, h2⟩
theorem wp_setDict {i : Nat} {p : Bool} {kvs : List (PyData × PyData)} {k : Int} {d : PyData} {n2 : En} {R : Unit → En → Prop} (h : n[i]? = some (.own false p (.dict kvs))) (s : SetAt n i (.own false p (.dict (dput kvs k d))) n2) (q : R () n2) (hn : notFL kvs = true) (hl : kvs.length < sizeLine) : wp (setAt (.s i) (.int k) d) n R := by
  have hd : dictAt (.s i) n = true := by simp only [dictAt, h]
  refine ⟨(), n2, ?_, q⟩
  show (if dictAt (.s i) n = true then setD (.s i) k d n else _) = _
  rw [if_pos hd]
  simp only [setD, h]
  rw [if_pos ⟨hn, hl⟩, s.eq]
end
/-! ### the script's numbers, drawn -/
def StOk (ns : List Int) (s : PyData) : Prop := ∃ (i : Nat) (c r : Int), s = .list [FL (ns.map .int), .int i, .int c, .int r] ∧ 0 ≤ c ∧ 0 ≤ r ∧ r < 2147483648
@[reducible] def fPick : Fn := ⟨[true, false], 4, (.seq (.ife (.and (.cmp .Eq (.idx (.var 0) (.con (.int 2))) (.con (.int 0))) (.cmp .Lt (.idx (.var 0) (.con (.int 1))) (.blt .len (.cons (.idx (.var 0) (.con (.int 0))) .nil)))) (.seq (.asg 2 (.blt .abs (.cons (.idx (.idx (.var 0) (.con (.int 0))) (.idx (.var 0) (.con (.int 1)))) .nil))) (.seq (.setI (.var 0) (.con (.int 1)) (.bin .Add (.idx (.var 0) (.con (.int 1))) (.con (.int 1)))) (.seq (.ife (.cmp .GtE (.var 2) (.bin .Pow (.con (.int 10)) (.con (.int 18)))) (.seq (.setI (.var 0) (.con (.int 2)) (.var 2)) .nil) (.seq (.setI (.var 0) (.con (.int 3)) (.bin .Add (.bin .Mod (.blt .int (.cons (.bin .Add (.bin .Mult (.idx (.var 0) (.con (.int 3))) (.con (.int 48271))) (.var 2)) .nil)) (.con (.int 2147483646))) (.con (.int 1)))) .nil)) .nil))) .nil) (.seq (.ife (.cmp .Gt (.idx (.var 0) (.con (.int 2))) (.con (.int 0))) (.seq (.asg 3 (.bin .Mod (.blt .int (.cons (.idx (.var 0) (.con (.int 2))) .nil)) (.var 1))) (.seq (.setI (.var 0) (.con (.int 2)) (.bin .FloorDiv (.idx (.var 0) (.con (.int 2))) (.var 1))) (.seq (.ret (.var 3)) .nil))) .nil) (.seq (.setI (.var 0) (.con (.int 3)) (.bin .Mod (.blt .int (.cons (.bin .Mult (.idx (.var 0) (.con (.int 3))) (.con (.int 48271))) .nil)) (.con (.int 2147483647)))) (.seq (.ret (.bin .Mod (.blt .int (.cons (.bin .Add (.bin .FloorDiv (.idx (.var 0) (.con (.int 3))) (.con (.int 5))) (.bin .Mod (.blt .int (.cons (.bin .Mult (.idx (.var 0) (.con (.int 3))) (.idx (.var 0) (.con (.int 3)))) .nil)) (.con (.int 2147483629)))) .nil)) (.var 1))) .nil))))⟩
theorem pow18 : binD .Pow (.int 10) (.int 18) = some (.v (.int 1000000000000000000)) := by rfl
section
variable {n : En}
theorem wp_tt {α : Type} {t : Bool} {a b : M α} {Q : α → En → Prop} (e : t = true) (h : wp a n Q) : wp (if t = true then a else b) n Q := by subst e; exact h
theorem wp_ff {α : Type} {t : Bool} {a b : M α} {Q : α → En → Prop} (e : t = false) (h : wp b n Q) : wp (if t = true then a else b) n Q := by subst e; exact h
theorem o_ixl {xs : List PyData} {i : Int} {d : PyData} {R : PyData → En → Prop} (h : L2.atI xs i = some d) (q : R d n) : wp (opt (idxD (.list xs) (.int i))) n R := wp_opt h q
theorem o_ixt {xs : List PyData} {i : Int} {d : PyData} {R : PyData → En → Prop} (h : L2.atI xs i = some d) (q : R d n) : wp (opt (idxD (.tuple xs) (.int i))) n R := wp_opt h q
theorem o_ixF {xs : List Int} {i : Nat} {R : PyData → En → Prop} (q : ∀ h : i < xs.length, R (.int xs[i]) n) (h : i < xs.length) : wp (opt (idxD (FL (xs.map .int)) (.int (i : Int)))) n R := wp_opt (L2.atI_nat (by rw [List.getElem?_map, List.getElem?_eq_getElem h]; rfl)) (q h)
variable {R : Opd → En → Prop} {xs : List PyData} {i j : Int}
theorem b_lenl (q : R (.v (.int xs.length)) n) : wp (opt (bltD .len [.list xs])) n R := wp_opt rfl q
theorem b_lent (q : R (.v (.int xs.length)) n) : wp (opt (bltD .len [.tuple xs])) n R := wp_opt rfl q
theorem b_lenF {ns : List Int} (q : R (.v (.int ns.length)) n) : wp (opt (bltD .len [FL (ns.map .int)])) n R := by
  refine wp_opt (a := .v (.int ns.length)) ?_ q
  exact congrArg (fun z : Nat => some (Opd.v (.int (z : Int)))) (List.length_map _)
theorem b_abs (q : R (.v (.int (if i < 0 then -i else i))) n) : wp (opt (bltD .abs [.int i])) n R := wp_opt rfl q
theorem b_int (q : R (.v (.int i)) n) : wp (opt (bltD .int [.int i])) n R := wp_opt rfl q
theorem b_max (q : R (.v (.int (max i j))) n) : wp (opt (bltD .max [.int i, .int j])) n R := by
  refine wp_opt (a := .v (.int (max i j))) ?_ q
  show some (Opd.v (.int (if j > i then j else i))) = _
  exact congrArg (fun z => some (Opd.v (.int z))) (by split <;> omega)
theorem b_min (q : R (.v (.int (min i j))) n) : wp (opt (bltD .min [.int i, .int j])) n R := by
  refine wp_opt (a := .v (.int (min i j))) ?_ q
  show some (Opd.v (.int (if j < i then j else i))) = _
  exact congrArg (fun z => some (Opd.v (.int z))) (by split <;> omega)
theorem intsOf_ints : ∀ ns : List Int, intsOf (ns.map .int) = some ns
  | [] => rfl
  | n :: ns => by
    show (intsOf (ns.map .int)).map (n :: ·) = _
    rw [intsOf_ints ns]
    rfl
theorem b_sum {ns : List Int} (q : R (.v (.int ns.sum)) n) : wp (opt (bltD .sum [.list (ns.map .int)])) n R := by
  refine wp_opt (a := .v (.int ns.sum)) ?_ q
  show (intsOf (ns.map .int)).map (fun ns => Opd.v (.int ns.sum)) = _
  rw [intsOf_ints]
  rfl
theorem b_sumT {ns : List Int} (q : R (.v (.int ns.sum)) n) : wp (opt (bltD .sum [.tuple (ns.map .int)])) n R := by
  refine wp_opt (a := .v (.int ns.sum)) ?_ q
  show (intsOf (ns.map .int)).map (fun ns => Opd.v (.int ns.sum)) = _
  rw [intsOf_ints]
  rfl
theorem b_tup (q : R (.v (.tuple xs)) n) : wp (opt (bltD .tuple [.list xs])) n R := wp_opt rfl q
theorem b_lst (q : R (.f (.list xs)) n) : wp (opt (bltD .list [.list xs])) n R := wp_opt rfl q
theorem b_lstt (q : R (.f (.list xs)) n) : wp (opt (bltD .list [.tuple xs])) n R := wp_opt rfl q
end
theorem idx_c {xs : List PyData} {i : Int} {d : PyData} (h : L2.atI xs i = some d) : idxD (.list xs) (.int i) = some d := h
theorem idx_ct {xs : List PyData} {i : Int} {d : PyData} (h : L2.atI xs i = some d) : idxD (.tuple xs) (.int i) = some d := h
theorem fmod_r {a b : Int} (h : 0 < b) : 0 ≤ a.fmod b ∧ a.fmod b < b := ⟨Int.fmod_nonneg_of_pos a h, Int.fmod_lt_of_pos a h⟩
theorem fdiv_r {a b : Int} (ha : 0 ≤ a) (h : 0 < b) : 0 ≤ a.fdiv b := Int.fdiv_nonneg ha (Int.le_of_lt h)
local macro_rules
  | `(tactic| sleep 1) => `(tactic| repeat (first | with_reducible (first | refine wp_seq ?_ | refine wp_con ?_ | refine wp_evs ?_ | refine wp_evs0 ?_ | refine wp_rd_v ?_ | refine wp_rd_f ?_ | refine wp_rds ?_ | refine wp_rds0 ?_ | refine wp_kp_v ?_ | refine wp_kp_f ?_ | refine wp_keeps ?_ | refine wp_keeps0 ?_ | refine wp_bin ?_ | refine wp_idx ?_ | refine wp_blt ?_ | refine wp_cmp ?_ | refine wp_tup ?_ | refine wp_lst ?_ | refine wp_call ?_ | refine wp_and ?_ | refine wp_or ?_ | refine wp_not ?_ | refine wp_ife ?_ | refine wp_slc ?_ | refine wp_asI ?_ | refine wp_neg ?_ | refine IntOk.mk ?_ | refine Tagged.lst ?_ | refine wp_mth ?_ | refine wp_app ?_ | refine wp_tru ?_ | refine o_add ?_ | refine o_sub ?_ | refine cp_eq ?_ | refine cp_ne ?_ | refine cp_lt ?_ | refine cp_gt ?_ | refine cp_le ?_ | refine cp_ge ?_ | refine tr_b ?_ | refine wp_t ?_ | refine wp_f ?_ | refine wp_asg ?_ | refine wp_put_s ?_ | refine wp_retS ?_ | refine wp_retN ?_ | refine wp_ifS ?_ | refine wp_setI ?_ | refine wp_aug ?_ | refine wp_exp ?_ | refine wp_par ?_ | refine wp_sts ?_ | refine wp_sts0 ?_ | refine wp_st_v ?_ | refine wp_st_f ?_ | refine wp_st_s ?_ | refine wp_pa ?_ | refine wp_pa0 ?_ | refine wp_asgT ?_ | refine wp_for ?_ | refine wp_nil ?_ | refine wp_brk ?_ | refine wp_cont ?_ | refine wp_comp ?_ | refine wp_comp2 ?_ | refine wp_tst0 ?_ | refine wp_tst ?_ | refine wp_nm ?_ | refine wp_tu ?_ | refine wp_ts ?_ | refine wp_ts0 ?_ | refine wp_wkvt ?_ | refine wp_wkvl ?_ | refine wp_wkfl ?_ | refine wp_lock0 ?_ | refine wp_wke ?_ | refine g_add ?_ | refine g_sub ?_ | refine wp_bnd ?_ | refine wp_ret ?_ | refine wp_some ?_ | refine b_lenF ?_ | refine b_lenl ?_ | refine b_lent ?_ | refine b_abs ?_ | refine b_int ?_ | refine b_max ?_ | refine b_min ?_ | refine b_sum ?_ | refine b_sumT ?_ | refine b_tup ?_ | refine b_lst ?_ | refine b_lstt ?_) | ((with_reducible apply wp_var_v); exact rfl) | ((with_reducible apply wp_var_o); exact rfl) | ((with_reducible apply wp_rd_s); exact rfl) | ((with_reducible apply wp_rd_sv); exact rfl) | ((with_reducible apply wp_kp_sv); exact rfl) | ((with_reducible apply wp_wks); exact rfl) | ((with_reducible apply Tagged.tup); exact rfl) | ((with_reducible apply wp_lockL); exact rfl) | ((with_reducible apply cp_is); exact rfl) | ((with_reducible apply cp_isn); exact rfl) | ((with_reducible apply o_ixl); exact rfl) | ((with_reducible apply o_ixt); exact rfl) | ((with_reducible apply wp_tt); exact rfl) | ((with_reducible apply wp_ff); exact rfl) | ((with_reducible apply wp_tt); assumption) | ((with_reducible apply wp_ff); assumption) | ((with_reducible refine o_ixF ?_ (by assumption)); intro _) | ((with_reducible apply wp_lockF); exact rfl; (repeat (first | exact SetAt.zero | apply SetAt.succ))) | ((with_reducible apply UnLk.mk); exact rfl; (repeat (first | exact SetAt.zero | apply SetAt.succ))) | ((with_reducible apply Both.mk); (first | exact rfl | exact len60 rfl | assumption)) | ((with_reducible apply b_isaT); exact rfl; (first | exact rfl | assumption)) | ((with_reducible apply b_isaF); exact rfl; (first | exact rfl | assumption)) | ((with_reducible apply wp_appC); exact rfl; (repeat (first | exact SetAt.zero | apply SetAt.succ))) | ((with_reducible apply wp_kp_s); exact rfl; (repeat (first | exact SetAt.zero | apply SetAt.succ))) | ((with_reducible apply wp_put_v); (repeat (first | exact SetAt.zero | apply SetAt.succ)); (first | exact rfl | assumption)) | ((with_reducible apply wp_put_f); (repeat (first | exact SetAt.zero | apply SetAt.succ)); (first | exact rfl | assumption)) | ((with_reducible apply wp_putSl); (repeat (first | exact SetAt.zero | apply SetAt.succ)); (first | exact rfl | assumption)) | ((with_reducible apply wp_setAt); exact rfl; exact rfl; (repeat (first | exact SetAt.zero | apply SetAt.succ)))))
theorem r_pick {p : List Fn} {i k : Nat} {ns : List Int} {s : PyData} {l : Int} (hp : p[i]? = some fPick) (hs : StOk ns s) (h0 : 0 < l) (h1 : l < 1073741824) :
    ∃ s' d, run p (k + 1) i [.own false true s, .val (.int l)] = .ok false (.int d) [.own false true s', .emp] ∧ StOk ns s' ∧ 0 ≤ d ∧ d < l := by
  have go : ∃ fr d fin, run p (k + 1) i [.own false true s, .val (.int l)] = .ok fr d fin ∧ ∃ s' v, fr = false ∧ d = .int v ∧ fin = [.own false true s', .emp] ∧ StOk ns s' ∧ 0 ≤ v ∧ v < l := by
    obtain ⟨i, c, r, rfl, hc, hr0, hr1⟩ := hs
    refine run_ex (n0 := [_, _, _, _]) hp rfl (by decide) rfl ?_
    refine wp_seqI (fun n' => ∃ s' x, n' = [.own false true s', .val (.int l), x, .emp] ∧ StOk ns s') ?_ ?_
    · sleep 1
      refine wp_if ?_ ?_
      · intro e0
        sleep 1
        refine wp_if ?_ ?_
        · intro e1
          have e2 : i < ns.length := by
            have := of_decide_eq_true e1
            omega
          sleep 1
          refine wp_opt pow18 ?_
          sleep 1
          refine wp_if ?_ ?_
          · intro e3
            sleep 1
            exact ⟨_, _, rfl, i + 1, _, _, rfl, by split <;> omega, hr0, hr1⟩
          · intro e3
            sleep 1
            refine o_mul ?_ (.inr (by decide))
            sleep 1
            refine o_mod ?_ (by decide)
            sleep 1
            have := @fmod_r (r * 48271 + (if ns[i] < 0 then -ns[i] else ns[i])) 2147483646 (by decide)
            exact ⟨_, _, rfl, i + 1, _, _, rfl, hc, by omega, by omega⟩
        · intro e1
          sleep 1
          exact ⟨_, _, rfl, i, c, r, rfl, hc, hr0, hr1⟩
      · intro e0
        sleep 1
        exact ⟨_, _, rfl, i, c, r, rfl, hc, hr0, hr1⟩
    · rintro n' ⟨s', x, rfl, i, c, r, rfl, hc, hr0, hr1⟩
      sleep 1
      refine wp_if ?_ ?_
      · intro e
        sleep 1
        refine o_mod ?_ (by omega)
        sleep 1
        refine o_div ?_ (by omega)
        sleep 1
        exact ⟨_, _, _, rfl, _, _, rfl, rfl, rfl, ⟨i, _, _, rfl, fdiv_r hc h0, hr0, hr1⟩, fmod_r h0⟩
      · intro e
        sleep 1
        refine o_mul ?_ (.inr (by decide))
        sleep 1
        refine o_mod ?_ (by decide)
        have m := @fmod_r (r * 48271) 2147483647 (by decide)
        generalize (r * 48271).fmod 2147483647 = r2 at m ⊢
        sleep 1
        refine o_div ?_ (by decide)
        sleep 1
        refine o_mul ?_ (.inr (by omega))
        sleep 1
        refine o_mod ?_ (by decide)
        sleep 1
        refine o_mod ?_ (by omega)
        sleep 1
        exact ⟨_, _, _, rfl, _, _, rfl, rfl, rfl, ⟨i, _, _, rfl, hc, m.1, by omega⟩, fmod_r h0⟩
  obtain ⟨fr, d, fin, e, s', v, rfl, rfl, rfl, h⟩ := go
  exact ⟨s', v, e, h⟩
end DM
set_option Elab.async false
set_option linter.all false
set_option maxRecDepth 100000
set_option maxHeartbeats 1000000
/-! DMX: more helpers that stand in each law: _law_same, _law_row, the orders. -/
namespace DM
open PySem
/-! ### calls -/
section
variable {cf : Cf} {n : En} {Q : Opd → En → Prop}
theorem noFreeze (b : Bool) (n : En) : freezeUnless b [] n = some n := by cases b <;> rfl
theorem wp_callV {f : Nat} {io : List Bool} {os : List Opd} {as fin : List Sl} {d : PyData} {n1 : En} (h0 : decide ((ioSl io os).Nodup ∧ ∀ i ∈ ioSl io os, i ∉ plSl io os) = true) (h1 : argsOf n io os = some as) (h2 : plSl io os = []) (h3 : backIO io os fin n = some n1) (q : Q (.v d) n1) (hr : cf f as = .ok false d fin) : wp (callM cf f io os) n Q :=
  wp_callM hr (of_decide_eq_true h0) h1 h3 (by rw [h2]; exact noFreeze _ _) q
theorem wp_callF {f : Nat} {io : List Bool} {os : List Opd} {as fin : List Sl} {d : PyData} {n1 : En} (h0 : decide ((ioSl io os).Nodup ∧ ∀ i ∈ ioSl io os, i ∉ plSl io os) = true) (h1 : argsOf n io os = some as) (h2 : plSl io os = []) (h3 : backIO io os fin n = some n1) (q : Q (.f d) n1) (hr : cf f as = .ok true d fin) : wp (callM cf f io os) n Q :=
  wp_callM hr (of_decide_eq_true h0) h1 h3 (by rw [h2]; exact noFreeze _ _) q
theorem len60 {α : Type} {ds : List α} (h : Nat.ble ds.length 60 = true) : ds.length ≤ sizeLine := Nat.le_trans (Nat.le_of_ble_eq_true h) (by rw [sizeLine_eq]; omega)
theorem b_isaT {t : Ty} {d : PyData} (h : isaD t d = true) (hp : d.plain = true) (q : Q (.v (.bool true)) n) : wp (opt (bltD (.isa t) [d])) n Q := by
  refine wp_opt (a := .v (.bool true)) ?_ q
  show (if d.plain = true then some (Opd.v (.bool (isaD t d))) else none) = _
  rw [if_pos hp, h]
theorem b_isaF {t : Ty} {d : PyData} (h : isaD t d = false) (hp : d.plain = true) (q : Q (.v (.bool false)) n) : wp (opt (bltD (.isa t) [d])) n Q := by
  refine wp_opt (a := .v (.bool false)) ?_ q
  show (if d.plain = true then some (Opd.v (.bool (isaD t d))) else none) = _
  rw [if_pos hp, h]
end
/-! ### data that are plain, of a known depth -/
inductive LV : Nat → PyData → Prop
  | non {k : Nat} : LV k .none
  | bool {k : Nat} (b : Bool) : LV k (.bool b)
  | int {k : Nat} (i : Int) : LV k (.int i)
  | tup {k : Nat} {xs : List PyData} (h : ∀ x ∈ xs, LV k x) (hl : xs.length ≤ sizeLine) : LV (k + 1) (.tuple xs)
  | lst {k : Nat} {xs : List PyData} (h : ∀ x ∈ xs, LV k x) (hl : xs.length ≤ sizeLine) : LV (k + 1) (.list xs)
theorem plainAll_of : ∀ {xs : List PyData}, (∀ x ∈ xs, x.plain = true) → PyData.plainAll xs = true
  | [], _ => rfl
  | x :: xs, h => by
    rw [PyData.plainAll, h x (List.mem_cons_self ..), plainAll_of fun y hy => h y (List.mem_cons_of_mem _ hy)]
    rfl
theorem depthAll_of {k : Nat} : ∀ {xs : List PyData}, (∀ x ∈ xs, x.depth ≤ k) → PyData.depthAll xs ≤ k
  | [], _ => Nat.zero_le _
  | x :: xs, h => by
    rw [PyData.depthAll]
    exact Nat.max_le.mpr ⟨h x (List.mem_cons_self ..), depthAll_of fun y hy => h y (List.mem_cons_of_mem _ hy)⟩
theorem LV.plain {k : Nat} {d : PyData} (h : LV k d) : d.plain = true := by
  induction h with
  | non => rfl
  | bool _ => rfl
  | int _ => rfl
  | tup _ _ ih => exact plainAll_of ih
  | lst _ _ ih => exact plainAll_of ih
theorem LV.depth {k : Nat} {d : PyData} (h : LV k d) : d.depth ≤ k := by
  induction h with
  | non => exact Nat.zero_le _
  | bool _ => exact Nat.zero_le _
  | int _ => exact Nat.zero_le _
  | tup _ _ ih => exact Nat.succ_le_succ (depthAll_of ih)
  | lst _ _ ih => exact Nat.succ_le_succ (depthAll_of ih)
theorem LV.dok {k : Nat} {d : PyData} (h : LV k d) (hk : k ≤ 60) : dok d = true := by
  unfold DM.dok
  rw [h.plain, Bool.true_and]
  exact decide_eq_true (Nat.le_trans h.depth hk)
theorem LV.up {k : Nat} {d : PyData} (h : LV k d) : LV (k + 1) d := by
  induction h with
  | non => exact .non
  | bool b => exact .bool b
  | int i => exact .int i
  | tup _ hl ih => exact .tup ih hl
  | lst _ hl ih => exact .lst ih hl
theorem LV.ups {k j : Nat} {d : PyData} (h : LV k d) (hj : k ≤ j) : LV j d := by
  obtain ⟨m, rfl⟩ := Nat.exists_eq_add_of_le hj
  clear hj
  induction m with
  | zero => exact h
  | succ m ih => exact ih.up
/-! ### rows of numbers -/
@[reducible] def tN (r : List Nat) : PyData := .tuple (r.map fun (k : Nat) => PyData.int (k : Int))
@[reducible] def tZ (r : List Int) : PyData := .tuple (r.map PyData.int)
theorem lv_tN {r : List Nat} (h : r.length ≤ sizeLine) : LV 1 (tN r) := .tup (fun x hx => by
  obtain ⟨k, _, rfl⟩ := List.mem_map.mp hx
  exact .int _) (by rw [List.length_map]; exact h)
theorem lv_tZ {r : List Int} (h : r.length ≤ sizeLine) : LV 1 (tZ r) := .tup (fun x hx => by
  obtain ⟨k, _, rfl⟩ := List.mem_map.mp hx
  exact .int _) (by rw [List.length_map]; exact h)
/-! ### more operations -/
section
variable {n : En} {R : Bool → En → Prop}
theorem any_tN (r : List Nat) (k : Nat) : ((r.map fun (j : Nat) => PyData.int (j : Int)).any fun z => PyData.eqv z (.int (k : Int))) = r.contains k := by
  induction r with
  | nil => rfl
  | cons j r ih =>
    rw [List.map_cons, List.any_cons, ih, List.contains_cons]
    congr 1
    show (((j : Int)) == (k : Int)) = (k == j)
    by_cases h : j = k
    · subst h; simp
    · rw [beq_eq_false_iff_ne.mpr (fun z => h (by omega)), beq_eq_false_iff_ne.mpr (fun z => h z.symm)]
theorem cp_notin {r : List Nat} {k : Nat} (q : R (!r.contains k) n) (h : r.length ≤ sizeLine) : wp (opt (cmpD .NotIn (.int (k : Int)) (tN r))) n R := by
  refine wp_opt (a := !r.contains k) ?_ q
  show (if (DM.dok _ && DM.dok (tN r)) = true then _ else _) = _
  rw [ok_int, (lv_tN h).dok (by decide), Bool.and_self, if_pos rfl, any_tN]
/-- two lists of nothing, or of something and nothing -/
theorem cp_nil (q : R true n) : wp (opt (cmpD .Eq (.list []) (.list []))) n R := wp_opt rfl q
end
theorem wp_block0 {n0 : En} {T : Type} {own : List Nat} {body : PyData → M (List PyData)} {ts : List T} {enc : T → PyData} {R : List PyData → En → Prop} {n : En} (hf : own.all (freeSl n) = true) (w : Wiped own n n0) (hs : ∀ x ∈ ts, wp (body (enc x)) n0 fun r n2 => r = [] ∧ Wiped own n2 n0) (q : R [] n) :
    wp (block own (turns (fun x => inBlock own (body x)) (ts.map enc))) n R := by
  have e2 : ts.flatMap (fun _ => ([] : List PyData)) = [] := by
    clear hs q
    induction ts with
    | nil => rfl
    | cons x xs ih => rw [List.flatMap_cons, ih]; rfl
  exact wp_blockP (fun _ => []) hf w hs (by rw [e2]; exact Nat.zero_le _) (by rw [e2]; exact q)
local macro_rules
  | `(tactic| sleep 1) => `(tactic| repeat (first | with_reducible (first | refine wp_seq ?_ | refine wp_con ?_ | refine wp_evs ?_ | refine wp_evs0 ?_ | refine wp_rd_v ?_ | refine wp_rd_f ?_ | refine wp_rds ?_ | refine wp_rds0 ?_ | refine wp_kp_v ?_ | refine wp_kp_f ?_ | refine wp_keeps ?_ | refine wp_keeps0 ?_ | refine wp_bin ?_ | refine wp_idx ?_ | refine wp_blt ?_ | refine wp_cmp ?_ | refine wp_tup ?_ | refine wp_lst ?_ | refine wp_call ?_ | refine wp_and ?_ | refine wp_or ?_ | refine wp_not ?_ | refine wp_ife ?_ | refine wp_slc ?_ | refine wp_asI ?_ | refine wp_neg ?_ | refine IntOk.mk ?_ | refine Tagged.lst ?_ | refine wp_mth ?_ | refine wp_app ?_ | refine wp_tru ?_ | refine o_add ?_ | refine o_sub ?_ | refine cp_eq ?_ | refine cp_ne ?_ | refine cp_lt ?_ | refine cp_gt ?_ | refine cp_le ?_ | refine cp_ge ?_ | refine tr_b ?_ | refine wp_t ?_ | refine wp_f ?_ | refine wp_asg ?_ | refine wp_put_s ?_ | refine wp_retS ?_ | refine wp_retN ?_ | refine wp_ifS ?_ | refine wp_setI ?_ | refine wp_aug ?_ | refine wp_exp ?_ | refine wp_par ?_ | refine wp_sts ?_ | refine wp_sts0 ?_ | refine wp_st_v ?_ | refine wp_st_f ?_ | refine wp_st_s ?_ | refine wp_pa ?_ | refine wp_pa0 ?_ | refine wp_asgT ?_ | refine wp_for ?_ | refine wp_nil ?_ | refine wp_brk ?_ | refine wp_cont ?_ | refine wp_comp ?_ | refine wp_comp2 ?_ | refine wp_tst0 ?_ | refine wp_tst ?_ | refine wp_nm ?_ | refine wp_tu ?_ | refine wp_ts ?_ | refine wp_ts0 ?_ | refine wp_wkvt ?_ | refine wp_wkvl ?_ | refine wp_wkfl ?_ | refine wp_lock0 ?_ | refine wp_wke ?_ | refine g_add ?_ | refine g_sub ?_ | refine wp_bnd ?_ | refine wp_ret ?_ | refine wp_some ?_ | refine b_lenF ?_ | refine b_lenl ?_ | refine b_lent ?_ | refine b_abs ?_ | refine b_int ?_ | refine b_max ?_ | refine b_min ?_ | refine b_sum ?_ | refine b_sumT ?_ | refine b_tup ?_ | refine b_lst ?_ | refine b_lstt ?_) | ((with_reducible apply wp_var_v); exact rfl) | ((with_reducible apply wp_var_o); exact rfl) | ((with_reducible apply wp_rd_s); exact rfl) | ((with_reducible apply wp_rd_sv); exact rfl) | ((with_reducible apply wp_kp_sv); exact rfl) | ((with_reducible apply wp_wks); exact rfl) | ((with_reducible apply Tagged.tup); exact rfl) | ((with_reducible apply wp_lockL); exact rfl) | ((with_reducible apply cp_is); exact rfl) | ((with_reducible apply cp_isn); exact rfl) | ((with_reducible apply o_ixl); exact rfl) | ((with_reducible apply o_ixt); exact rfl) | ((with_reducible apply wp_tt); exact rfl) | ((with_reducible apply wp_ff); exact rfl) | ((with_reducible apply wp_tt); assumption) | ((with_reducible apply wp_ff); assumption) | ((with_reducible refine o_ixF ?_ (by assumption)); intro _) | ((with_reducible apply wp_lockF); exact rfl; (repeat (first | exact SetAt.zero | apply SetAt.succ))) | ((with_reducible apply UnLk.mk); exact rfl; (repeat (first | exact SetAt.zero | apply SetAt.succ))) | ((with_reducible apply Both.mk); (first | exact rfl | exact len60 rfl | assumption)) | ((with_reducible apply b_isaT); exact rfl; (first | exact rfl | assumption)) | ((with_reducible apply b_isaF); exact rfl; (first | exact rfl | assumption)) | ((with_reducible apply wp_appC); exact rfl; (repeat (first | exact SetAt.zero | apply SetAt.succ))) | ((with_reducible apply wp_kp_s); exact rfl; (repeat (first | exact SetAt.zero | apply SetAt.succ))) | ((with_reducible apply wp_put_v); (repeat (first | exact SetAt.zero | apply SetAt.succ)); (first | exact rfl | assumption)) | ((with_reducible apply wp_put_f); (repeat (first | exact SetAt.zero | apply SetAt.succ)); (first | exact rfl | assumption)) | ((with_reducible apply wp_putSl); (repeat (first | exact SetAt.zero | apply SetAt.succ)); (first | exact rfl | assumption)) | ((with_reducible apply wp_setAt); exact rfl; exact rfl; (repeat (first | exact SetAt.zero | apply SetAt.succ)))))
/-! ### _law_same -/
@[reducible] def fSame (me : Nat) : Fn := ⟨[false, false], 4, (.seq (.ife (.cmp .Is (.var 1) (.con .none)) (.seq (.ret (.cmp .Is (.var 0) (.con .none))) .nil) .nil) (.seq (.ife (.blt (.isa .bool) (.cons (.var 1) .nil)) (.seq (.ret (.and (.blt (.isa .bool) (.cons (.var 0) .nil)) (.cmp .Eq (.var 0) (.var 1)))) .nil) .nil) (.seq (.ife (.blt (.isa .int) (.cons (.var 1) .nil)) (.seq (.ret (.and (.blt (.isa .int) (.cons (.var 0) .nil)) (.and (.not (.blt (.isa .bool) (.cons (.var 0) .nil))) (.cmp .Eq (.var 0) (.var 1))))) .nil) .nil) (.seq (.ife (.blt (.isa .str) (.cons (.var 1) .nil)) (.seq (.ret (.and (.blt (.isa .str) (.cons (.var 0) .nil)) (.cmp .Eq (.var 0) (.var 1)))) .nil) .nil) (.seq (.ife (.or (.and (.blt (.isa .list) (.cons (.var 1) .nil)) (.not (.blt (.isa .list) (.cons (.var 0) .nil)))) (.and (.blt (.isa .tuple) (.cons (.var 1) .nil)) (.not (.blt (.isa .tuple) (.cons (.var 0) .nil))))) (.seq (.ret (.con (.bool false))) .nil) .nil) (.seq (.ret (.and (.cmp .Eq (.blt .len (.cons (.var 0) .nil)) (.blt .len (.cons (.var 1) .nil))) (.cmp .Eq (.comp [2, 3] (.nm 3) .range1 (.cons (.blt .len (.cons (.var 1) .nil)) .nil) (.cons (.not (.call me [false, false] (.cons (.idx (.var 0) (.var 3)) (.cons (.idx (.var 1) (.var 3)) .nil)))) .nil) (.con (.int 1))) (.lst .nil)))) .nil))))))⟩
theorem size_62 : sizeLine < 2 ^ 62 := by rw [sizeLine_eq]; omega
theorem r_same {p : List Fn} {me : Nat} (hp : p[me]? = some (fSame me)) {k : Nat} {d : PyData} (h : LV k d) : ∀ j, k ≤ j → run p (j + 1) me [.val d, .val d] = .ok false (.bool true) [.emp, .emp] := by
  induction h with
  | non =>
    intro j hj
    refine run_wp (n0 := [_, _, _, _]) hp rfl (Nat.le_of_ble_eq_true rfl) rfl ?_
    sleep 1
    rfl
  | bool b =>
    intro j hj
    refine run_wp (n0 := [_, _, _, _]) hp rfl (Nat.le_of_ble_eq_true rfl) rfl ?_
    sleep 1
    refine wp_opt (a := true) ?_ ?_
    · cases b <;> rfl
    sleep 1
    rfl
  | int i =>
    intro j hj
    refine run_wp (n0 := [_, _, _, _]) hp rfl (Nat.le_of_ble_eq_true rfl) rfl ?_
    sleep 1
    show finish _ (.ok (.ret (.v (.bool (decide (i = i))))) _) = _
    rw [decide_eq_true rfl]
    rfl
  | @tup k xs hx hl ih =>
    intro j hj
    have pl : (PyData.tuple xs).plain = true := (LV.tup hx hl).plain
    obtain ⟨j, rfl⟩ : ∃ j', j = j' + 1 := ⟨j - 1, by omega⟩
    refine run_wp (n0 := [_, _, _, _]) hp rfl (Nat.le_of_ble_eq_true rfl) rfl ?_
    sleep 1
    refine wp_tt (decide_eq_true rfl) ?_
    sleep 1
    refine wp_r1 ?_ rfl (Nat.lt_of_le_of_lt hl size_62)
    sleep 1
    refine wp_block0 rfl (by repeat (first | exact SetAt.zero | apply SetAt.succ | exact Wiped.nil | apply Wiped.cons)) (fun x hx' => ?_) ?_
    · have hx2 : x < xs.length := List.mem_range.mp hx'
      sleep 1
      refine wp_opt (L2.atI_nat (List.getElem?_eq_getElem hx2)) ?_
      sleep 1
      refine wp_opt (L2.atI_nat (List.getElem?_eq_getElem hx2)) ?_
      sleep 1
      refine wp_callV rfl rfl rfl rfl ?_ (ih _ (List.getElem_mem hx2) j (by omega))
      sleep 1
      exact ⟨rfl, by repeat (first | exact SetAt.zero | apply SetAt.succ | exact Wiped.nil | apply Wiped.cons)⟩
    · sleep 1
      refine cp_nil ?_
      sleep 1
      rfl
  | @lst k xs hx hl ih =>
    intro j hj
    have pl : (PyData.list xs).plain = true := (LV.lst hx hl).plain
    obtain ⟨j, rfl⟩ : ∃ j', j = j' + 1 := ⟨j - 1, by omega⟩
    refine run_wp (n0 := [_, _, _, _]) hp rfl (Nat.le_of_ble_eq_true rfl) rfl ?_
    sleep 1
    refine wp_tt (decide_eq_true rfl) ?_
    sleep 1
    refine wp_r1 ?_ rfl (Nat.lt_of_le_of_lt hl size_62)
    sleep 1
    refine wp_block0 rfl (by repeat (first | exact SetAt.zero | apply SetAt.succ | exact Wiped.nil | apply Wiped.cons)) (fun x hx' => ?_) ?_
    · have hx2 : x < xs.length := List.mem_range.mp hx'
      sleep 1
      refine wp_opt (L2.atI_nat (List.getElem?_eq_getElem hx2)) ?_
      sleep 1
      refine wp_opt (L2.atI_nat (List.getElem?_eq_getElem hx2)) ?_
      sleep 1
      refine wp_callV rfl rfl rfl rfl ?_ (ih _ (List.getElem_mem hx2) j (by omega))
      sleep 1
      exact ⟨rfl, by repeat (first | exact SetAt.zero | apply SetAt.succ | exact Wiped.nil | apply Wiped.cons)⟩
    · sleep 1
      refine cp_nil ?_
      sleep 1
      rfl
/-! ### _law_start, _law_row -/
@[reducible] def fStart : Fn := ⟨[false], 1, (.seq (.ret (.lst (.cons (.var 0) (.cons (.con (.int 0)) (.cons (.con (.int 0)) (.cons (.con (.int 7)) .nil)))))) .nil)⟩
theorem r_start {p : List Fn} {i k : Nat} {ns : List Int} (hp : p[i]? = some fStart) : ∃ s, run p (k + 1) i [.val (FL (ns.map .int))] = .ok true s [.emp] ∧ StOk ns s := by
  refine ⟨.list [FL (ns.map .int), .int 0, .int 0, .int 7], run_wp (n0 := [_]) hp rfl (Nat.le_of_ble_eq_true rfl) rfl ?_, 0, 0, 7, rfl, by omega, by omega, by omega⟩
  sleep 1
  rfl
@[reducible] def fRow (pk : Nat) : Fn := ⟨[true, false, false, false], 6, (.seq (.ret (.blt .tuple (.cons (.comp [4, 5] (.nm 5) .range1 (.cons (.var 1) .nil) .nil (.bin .Add (.var 2) (.call pk [true, false] (.cons (.var 0) (.cons (.bin .Add (.bin .Sub (.var 3) (.var 2)) (.con (.int 1))) .nil))))) .nil))) .nil)⟩
theorem r_row {p : List Fn} {i pk k m : Nat} {ns : List Int} {s : PyData} {lo hi : Int} (hp : p[i]? = some (fRow pk)) (hq : p[pk]? = some fPick) (hs : StOk ns s) (hm : m ≤ 1000) (h1 : lo ≤ hi) (h2 : hi - lo + 1 < 1073741824) :
    ∃ s' vs, run p (k + 2) i [.own false true s, .val (.int (m : Int)), .val (.int lo), .val (.int hi)] = .ok false (tZ vs) [.own false true s', .emp, .emp, .emp] ∧ StOk ns s' ∧ vs.length = m ∧ ∀ v ∈ vs, lo ≤ v ∧ v ≤ hi := by
  have go : ∃ fr d fin, run p (k + 2) i [.own false true s, .val (.int (m : Int)), .val (.int lo), .val (.int hi)] = .ok fr d fin ∧ ∃ s' vs, fr = false ∧ d = tZ vs ∧ fin = [.own false true s', .emp, .emp, .emp] ∧ StOk ns s' ∧ vs.length = m ∧ ∀ v ∈ vs, lo ≤ v ∧ v ≤ hi := by
    refine run_ex (n0 := [_, _, _, _, _, _]) hp rfl (Nat.le_of_ble_eq_true rfl) rfl ?_
    sleep 1
    refine wp_r1 ?_ rfl (by omega)
    sleep 1
    refine wp_block (fun done acc n' => ∃ (s' : PyData) (vs : List Int) (x : Sl), n' = [.own false true s', .val (.int (m : Int)), .val (.int lo), .val (.int hi), .emp, x] ∧ acc = vs.map PyData.int ∧ StOk ns s' ∧ vs.length = done.length ∧ ∀ v ∈ vs, lo ≤ v ∧ v ≤ hi) rfl ?_ ?_ ?_
    · exact ⟨s, [], _, rfl, rfl, hs, rfl, fun v h => nomatch h⟩
    · rintro done acc x rest n' e ⟨s', vs, y, rfl, rfl, hs', hl, hv⟩
      show wp _ [.own false true s', .val (.int (m : Int)), .val (.int lo), .val (.int hi), .emp, .emp] _
      sleep 1
      obtain ⟨s2, v, hr, hs2, v0, v1⟩ := r_pick (k := k) hq hs' (l := hi - lo + 1) (by omega) h2
      refine wp_callV rfl rfl rfl rfl ?_ (hr)
      sleep 1
      exact ⟨s2, vs ++ [lo + v], _, rfl, by simp, hs2, by simp [hl], fun w hw => by
        rcases List.mem_append.mp hw with z | z
        · exact hv w z
        · rw [List.mem_singleton.mp z]; omega⟩
    · rintro acc n' ⟨s', vs, y, rfl, rfl, hs', hl, hv⟩
      refine ⟨by rw [List.length_map, hl, List.length_range, sizeLine_eq]; omega, ?_⟩
      show wp _ [.own false true s', .val (.int (m : Int)), .val (.int lo), .val (.int hi), .emp, .emp] _
      sleep 1
      exact ⟨_, _, _, rfl, s', vs, rfl, rfl, rfl, hs', by rw [hl, List.length_range], hv⟩
  obtain ⟨fr, d, fin, e, s', vs, rfl, rfl, rfl, h⟩ := go
  exact ⟨s', vs, e, h⟩
/-! ### orders -/
/-- the rows of t of the numbers below m, none twice -/
def ords (m : Nat) : Nat → List (List Nat)
  | 0 => [[]]
  | t + 1 => (ords m t).flatMap fun row => ((List.range m).filter fun k => !row.contains k).map fun k => row ++ [k]
theorem ords_len (m : Nat) : ∀ t : Nat, (ords m t).length ≤ m ^ t
  | 0 => Nat.le_refl _
  | t + 1 => by
    have go : ∀ l : List (List Nat), (l.flatMap fun row => ((List.range m).filter fun k => !row.contains k).map fun k => row ++ [k]).length ≤ l.length * m := by
      intro l
      induction l with
      | nil => simp
      | cons x l ih =>
        rw [List.flatMap_cons, List.length_append, List.length_map, List.length_cons, Nat.succ_mul]
        have := List.length_filter_le (fun k => !x.contains k) (List.range m)
        rw [List.length_range] at this
        omega
    exact Nat.le_trans (go _) (Nat.mul_le_mul_right m (ords_len m t))
theorem ords_mem {m : Nat} : ∀ {t : Nat} {r : List Nat}, r ∈ ords m t → r.length = t ∧ r.Nodup ∧ ∀ k ∈ r, k < m
  | 0, r, h => by
    rw [List.mem_singleton.mp h]
    exact ⟨rfl, List.nodup_nil, fun k h => nomatch h⟩
  | t + 1, r, h => by
    obtain ⟨row, h1, h2⟩ := List.mem_flatMap.mp h
    obtain ⟨k, h3, rfl⟩ := List.mem_map.mp h2
    obtain ⟨h4, h5⟩ := List.mem_filter.mp h3
    obtain ⟨q1, q2, q3⟩ := ords_mem h1
    have hk : k ∉ row := by simpa using h5
    refine ⟨by rw [List.length_append, q1]; rfl, ?_, fun j hj => ?_⟩
    · rw [List.nodup_append]
      exact ⟨q2, by simp, fun a ha b hb e => hk (by rw [List.mem_singleton.mp hb] at e; exact e ▸ ha)⟩
    · rcases List.mem_append.mp hj with z | z
      · exact q3 j z
      · rw [List.mem_singleton.mp z]; exact List.mem_range.mp h4
theorem ords_all {m : Nat} : ∀ {t : Nat} {r : List Nat}, r.length = t → r.Nodup → (∀ k ∈ r, k < m) → r ∈ ords m t
  | 0, r, h1, _, _ => by
    rw [List.length_eq_zero_iff.mp h1]
    exact List.mem_singleton.mpr rfl
  | t + 1, r, h1, h2, h3 => by
    have hne : r ≠ [] := fun z => by rw [z] at h1; cases h1
    have e : r.dropLast ++ [r.getLast hne] = r := List.dropLast_concat_getLast hne
    rw [← e] at h2 h3 ⊢
    rw [List.nodup_append] at h2
    refine List.mem_flatMap.mpr ⟨r.dropLast, ords_all (by rw [List.length_dropLast, h1]; rfl) h2.1 (fun k hk => h3 k (List.mem_append_left _ hk)), List.mem_map.mpr ⟨r.getLast hne, List.mem_filter.mpr ⟨List.mem_range.mpr (h3 _ (List.mem_append_right _ (List.mem_singleton.mpr rfl))), ?_⟩, rfl⟩⟩
    have : r.getLast hne ∉ r.dropLast := fun z => h2.2.2 _ z _ (List.mem_singleton.mpr rfl) rfl
    simpa using this
@[reducible] def fOrd : Fn := ⟨[false], 7, (.seq (.asg 1 (.lst (.cons (.tup .nil) .nil))) (.seq (.forr (.nm 2) .range1 (.cons (.var 0) .nil) (.seq (.asg 3 (.lst .nil)) (.seq (.forr (.nm 4) .plain (.cons (.var 1) .nil) (.seq (.asg 3 (.bin .Add (.var 3) (.comp [5, 6] (.nm 6) .range1 (.cons (.var 0) .nil) (.cons (.cmp .NotIn (.var 6) (.var 4)) .nil) (.bin .Add (.var 4) (.tup (.cons (.var 6) .nil)))))) .nil)) (.seq (.asg 1 (.var 3)) .nil)))) (.seq (.ret (.var 1)) .nil)))⟩
theorem pow7 {m t : Nat} (hm : m ≤ 7) (ht : t ≤ m) : m ^ t ≤ 823543 := Nat.le_trans (Nat.pow_le_pow_left hm t) (Nat.le_trans (Nat.pow_le_pow_right (by omega) (Nat.le_trans ht hm)) (by decide))
theorem ords_size {m t : Nat} (hm : m ≤ 7) (ht : t ≤ m) : (ords m t).length ≤ 823543 := Nat.le_trans (ords_len m t) (pow7 hm ht)
/-- the rows, each longer by one -/
def more (m : Nat) (l : List (List Nat)) : List (List Nat) := l.flatMap fun row => ((List.range m).filter fun k => !row.contains k).map fun k => row ++ [k]
theorem more_pre {m : Nat} {a b : List (List Nat)} : (more m a).length ≤ (more m (a ++ b)).length := by
  unfold more
  rw [List.flatMap_append, List.length_append]
  omega
theorem r_ordIn {p : List Fn} {k m t : Nat} (hm : m ≤ 7) (ht : t < m) (F x c : Sl) (oc : openS c = true) : wp (turnsF (fun z => bnd (setT (.nm 4) z) fun _ => exec (run p k) (.seq (.asg 3 (.bin .Add (.var 3) (.comp [5, 6] (.nm 6) .range1 (.cons (.var 0) .nil) (.cons (.cmp .NotIn (.var 6) (.var 4)) .nil) (.bin .Add (.var 4) (.tup (.cons (.var 6) .nil)))))) .nil)) ((ords m t).map tN)) [.val (.int (m : Int)), F, x, .own false false (.list []), c, .emp, .emp] fun fl n' => fl = .next ∧ ∃ y, n' = [.val (.int (m : Int)), F, x, .own false false (.list ((more m (ords m t)).map tN)), y, .emp, .emp] ∧ openS y = true := by
  refine wp_forT (T := List Nat) (fun done n' => ∃ y, n' = [.val (.int (m : Int)), F, x, .own false false (.list ((more m done).map tN)), y, .emp, .emp] ∧ openS y = true) ⟨_, rfl, oc⟩ ?_ ?_
  · rintro done row rest n' e ⟨y, rfl, oy⟩
    have hrow : row.length = t := (ords_mem (m := m) (t := t) (r := row) (by rw [e]; simp)).1
    have hbig : (more m (done ++ [row])).length ≤ 823543 := by
      have h1 : (more m (done ++ [row])).length ≤ (more m ((done ++ [row]) ++ rest)).length := more_pre
      have h2 : (done ++ [row]) ++ rest = ords m t := by rw [e]; simp
      rw [h2] at h1
      exact Nat.le_trans h1 (ords_size (t := t + 1) hm ht)
    have hcat : more m (done ++ [row]) = more m done ++ ((List.range m).filter fun k => !row.contains k).map fun k => row ++ [k] := by
      unfold more
      rw [List.flatMap_append]
      simp
    sleep 1
    refine wp_r1 ?_ rfl (by omega)
    sleep 1
    refine wp_blockF (fun k => !row.contains k) (fun k => tN (row ++ [k])) rfl (by repeat (first | exact SetAt.zero | apply SetAt.succ | exact Wiped.nil | apply Wiped.cons)) (fun k hk => ?_) ?_ ?_
    · sleep 1
      refine cp_notin ?_ (by rw [sizeLine_eq]; omega)
      sleep 1
      refine wp_if ?_ ?_
      · intro h
        sleep 1
        refine o_addT ?_ (by rw [List.length_map, sizeLine_eq]; simp; omega)
        sleep 1
        refine ⟨?_, by repeat (first | exact SetAt.zero | apply SetAt.succ | exact Wiped.nil | apply Wiped.cons)⟩
        rw [if_pos h]
        simp [tN]
      · intro h
        sleep 1
        refine ⟨?_, by repeat (first | exact SetAt.zero | apply SetAt.succ | exact Wiped.nil | apply Wiped.cons)⟩
        rw [if_neg (by rw [h]; decide)]
    · have hlen : ((more m done).map tN).length + (((List.range m).filter fun k => !row.contains k).map fun k => tN (row ++ [k])).length ≤ sizeLine := by
        rw [hcat, List.length_append, List.length_map] at hbig
        rw [List.length_map, List.length_map, sizeLine_eq]
        omega
      sleep 1
      refine o_addL ?_ hlen
      sleep 1
      exact ⟨.val (tN row), by rw [hcat, List.map_append, List.map_map]; rfl, rfl⟩
    · rw [List.length_range, sizeLine_eq]; omega
  · rintro n' ⟨y, rfl, oy⟩
    exact ⟨rfl, y, rfl, oy⟩
theorem r_orders {p : List Fn} {i k m : Nat} (hp : p[i]? = some fOrd) (hm : m ≤ 7) : run p (k + 1) i [.val (.int (m : Int))] = .ok (decide (m = 0)) (.list ((ords m m).map tN)) [.emp] := by
  refine run_wp (n0 := [_, _, _, _, _, _, _]) hp rfl (Nat.le_of_ble_eq_true rfl) rfl ?_
  sleep 1
  refine wp_r1 ?_ rfl (by omega)
  sleep 1
  refine wp_forN (fun t n' => ∃ F a b c, n' = [.val (.int (m : Int)), F, a, b, c, .emp, .emp] ∧ ((t = 0 ∧ F = .own false false (.list ((ords m t).map tN))) ∨ (0 < t ∧ F = .val (.list ((ords m t).map tN)))) ∧ openS a = true ∧ openS b = true ∧ openS c = true) ⟨_, _, _, _, rfl, .inl ⟨rfl, rfl⟩, rfl, rfl, rfl⟩ ?_ ?_
  · rintro t n' ht ⟨F, a, b, c, rfl, ⟨h0, rfl⟩ | ⟨h0, rfl⟩, oa, ob, oc⟩
    · sleep 1
      refine wp_mono (r_ordIn hm ht _ _ _ oc) ?_
      rintro fl n' ⟨rfl, y, rfl, oy⟩
      sleep 1
      exact ⟨_, _, _, _, rfl, .inr ⟨by omega, rfl⟩, rfl, rfl, oy⟩
    · sleep 1
      refine wp_mono (r_ordIn hm ht _ _ _ oc) ?_
      rintro fl n' ⟨rfl, y, rfl, oy⟩
      sleep 1
      exact ⟨_, _, _, _, rfl, .inr ⟨by omega, rfl⟩, rfl, rfl, oy⟩
  · rintro n' ⟨F, a, b, c, rfl, ⟨h0, rfl⟩ | ⟨h0, rfl⟩, oa, ob, oc⟩
    · sleep 1
      rw [h0]
      rfl
    · sleep 1
      rw [decide_eq_false (by omega)]
      rfl
/-! ### several names at once, append, places -/
section
variable {n : En} {α : Type}
theorem wp_sts0 {R : List Opd → En → Prop} (q : R [] n) : wp (settles []) n R := ⟨_, _, rfl, q⟩
theorem wp_sts {o : Opd} {os : List Opd} {R : List Opd → En → Prop} (h : wp (settle o) n fun p n1 => wp (settles os) n1 fun ps n2 => R (p :: ps) n2) : wp (settles (o :: os)) n R :=
  wp_bnd (wp_mono h fun _ _ h => wp_bnd (wp_mono h fun _ _ h => wp_ret h))
theorem wp_st_v {d : PyData} {R : Opd → En → Prop} (q : R (.v d) n) : wp (settle (.v d)) n R := ⟨_, _, rfl, q⟩
theorem wp_st_f {d : PyData} {R : Opd → En → Prop} (q : R (.f d) n) : wp (settle (.f d)) n R := ⟨_, _, rfl, q⟩
theorem wp_st_s {i : Nat} {R : Opd → En → Prop} (h : wp (keep (.s i)) n fun d n1 => R (.v d) n1) : wp (settle (.s i)) n R := wp_bnd (wp_mono h fun _ _ h => wp_ret h)
theorem wp_pa0 {R : Unit → En → Prop} (q : R () n) : wp (putAll [] []) n R := ⟨_, _, rfl, q⟩
theorem wp_pa {i : Nat} {is : List Nat} {o : Opd} {os : List Opd} {R : Unit → En → Prop} (h : wp (put i o) n fun _ n1 => wp (putAll is os) n1 R) : wp (putAll (i :: is) (o :: os)) n R := wp_bnd h
theorem wp_app {o : Opd} {os : List Opd} {R : Opd → En → Prop} (h : wp (keeps os) n fun ds n1 => wp (match ds with | [d] => change o (appF d) | _ => no) n1 R) : wp (mthM .append .lst o os) n R := wp_bnd h
theorem wp_appC {i : Nat} {p : Bool} {xs : List PyData} {d : PyData} {n2 : En} {R : Opd → En → Prop} (h : n[i]? = some (.own false p (.list xs))) (s : SetAt n i (.own false p (.list (xs ++ [d]))) n2) (q : R (.v .none) n2) (hl : xs.length < sizeLine) : wp (change (.s i) (appF d)) n R :=
  wp_change h (r := .none) (by unfold appF; exact if_pos hl) s q
theorem ixN_nat {j n : Nat} (h : j < n) : L2.ixN n (j : Int) = some j := by
  unfold L2.ixN
  rw [if_pos (by omega), if_pos (by omega)]
  simp
theorem wp_setZ {T : Type} {enc : T → PyData} {ts : List T} {i j : Nat} {v : T} {p : Bool} {n2 : En} {R : Unit → En → Prop} (h : n[i]? = some (.own false p (.list (ts.map enc)))) (s : SetAt n i (.own false p (.list ((ts.set j v).map enc))) n2) (q : R () n2) (hj : j < ts.length) : wp (setAt (.s i) (.int (j : Int)) (enc v)) n R := by
  refine wp_setAt h (ixN_nat (by rw [List.length_map]; exact hj)) ?_ q
  rw [List.map_set] at s
  exact s
end
/-- the item at a place -/
def ig (xs : List Int) (k : Nat) : Int := xs.getD k 0
def rg (rows : List (List Int)) (k : Nat) : List Int := rows.getD k []
def og (rows : List (List Nat)) (k : Nat) : List Nat := rows.getD k []
@[reducible] def tR (rows : List (List Int)) : PyData := .tuple (rows.map tZ)
section
variable {n : En} {R : PyData → En → Prop} {i : Int} {k : Nat}
theorem at_map {T : Type} {enc : T → PyData} {xs : List T} {d : T} (h : k < xs.length) : L2.atI (xs.map enc) (k : Int) = some (enc (xs.getD k d)) :=
  L2.atI_nat (by rw [List.getElem?_map, List.getElem?_eq_getElem h, List.getD_eq_getElem?_getD, List.getElem?_eq_getElem h]; rfl)
theorem o_igl {xs : List Int} (q : R (.int (ig xs k)) n) (e : i = (k : Int)) (h : k < xs.length) : wp (opt (idxD (.list (xs.map .int)) (.int i))) n R := by
  subst e; exact wp_opt (at_map h) q
theorem o_igt {xs : List Int} (q : R (.int (ig xs k)) n) (e : i = (k : Int)) (h : k < xs.length) : wp (opt (idxD (tZ xs) (.int i))) n R := by
  subst e; exact wp_opt (at_map h) q
theorem o_rg {xs : List (List Int)} (q : R (tZ (rg xs k)) n) (e : i = (k : Int)) (h : k < xs.length) : wp (opt (idxD (tR xs) (.int i))) n R := by
  subst e; exact wp_opt (at_map (enc := tZ) h) q
theorem o_rgl {xs : List (List Int)} (q : R (tZ (rg xs k)) n) (e : i = (k : Int)) (h : k < xs.length) : wp (opt (idxD (.list (xs.map tZ)) (.int i))) n R := by
  subst e; exact wp_opt (at_map (enc := tZ) h) q
theorem o_ogl {xs : List (List Nat)} (q : R (tN (og xs k)) n) (e : i = (k : Int)) (h : k < xs.length) : wp (opt (idxD (.list (xs.map tN)) (.int i))) n R := by
  subst e; exact wp_opt (at_map (enc := tN) h) q
theorem o_ogt {xs : List Nat} {d : Nat} (q : R (.int ((xs.getD k d : Nat) : Int)) n) (e : i = (k : Int)) (h : k < xs.length) : wp (opt (idxD (tN xs) (.int i))) n R := by
  subst e; exact wp_opt (at_map (enc := fun (k : Nat) => PyData.int (k : Int)) h) q
theorem at_last {T : Type} {enc : T → PyData} {xs : List T} {d : T} (h : xs ≠ []) : L2.atI (xs.map enc) (-1) = some (enc (xs.getLastD d)) := by
  obtain ⟨ys, y, rfl⟩ : ∃ ys y, xs = ys ++ [y] := ⟨xs.dropLast, xs.getLast h, (List.dropLast_concat_getLast h).symm⟩
  rw [List.map_append, List.map_singleton, L2.atI_last]
  simp
end
local macro_rules
  | `(tactic| sleep 1) => `(tactic| repeat (first | with_reducible (first | refine wp_seq ?_ | refine wp_con ?_ | refine wp_evs ?_ | refine wp_evs0 ?_ | refine wp_rd_v ?_ | refine wp_rd_f ?_ | refine wp_rds ?_ | refine wp_rds0 ?_ | refine wp_kp_v ?_ | refine wp_kp_f ?_ | refine wp_keeps ?_ | refine wp_keeps0 ?_ | refine wp_bin ?_ | refine wp_idx ?_ | refine wp_blt ?_ | refine wp_cmp ?_ | refine wp_tup ?_ | refine wp_lst ?_ | refine wp_call ?_ | refine wp_and ?_ | refine wp_or ?_ | refine wp_not ?_ | refine wp_ife ?_ | refine wp_slc ?_ | refine wp_asI ?_ | refine wp_neg ?_ | refine IntOk.mk ?_ | refine Tagged.lst ?_ | refine wp_mth ?_ | refine wp_app ?_ | refine wp_tru ?_ | refine o_add ?_ | refine o_sub ?_ | refine cp_eq ?_ | refine cp_ne ?_ | refine cp_lt ?_ | refine cp_gt ?_ | refine cp_le ?_ | refine cp_ge ?_ | refine tr_b ?_ | refine wp_t ?_ | refine wp_f ?_ | refine wp_asg ?_ | refine wp_put_s ?_ | refine wp_retS ?_ | refine wp_retN ?_ | refine wp_ifS ?_ | refine wp_setI ?_ | refine wp_aug ?_ | refine wp_exp ?_ | refine wp_par ?_ | refine wp_sts ?_ | refine wp_sts0 ?_ | refine wp_st_v ?_ | refine wp_st_f ?_ | refine wp_st_s ?_ | refine wp_pa ?_ | refine wp_pa0 ?_ | refine wp_asgT ?_ | refine wp_for ?_ | refine wp_nil ?_ | refine wp_brk ?_ | refine wp_cont ?_ | refine wp_comp ?_ | refine wp_comp2 ?_ | refine wp_tst0 ?_ | refine wp_tst ?_ | refine wp_nm ?_ | refine wp_tu ?_ | refine wp_ts ?_ | refine wp_ts0 ?_ | refine wp_wkvt ?_ | refine wp_wkvl ?_ | refine wp_wkfl ?_ | refine wp_lock0 ?_ | refine wp_wke ?_ | refine g_add ?_ | refine g_sub ?_ | refine wp_bnd ?_ | refine wp_ret ?_ | refine wp_some ?_ | refine b_lenF ?_ | refine b_lenl ?_ | refine b_lent ?_ | refine b_abs ?_ | refine b_int ?_ | refine b_max ?_ | refine b_min ?_ | refine b_sum ?_ | refine b_sumT ?_ | refine b_tup ?_ | refine b_lst ?_ | refine b_lstt ?_) | ((with_reducible apply wp_var_v); exact rfl) | ((with_reducible apply wp_var_o); exact rfl) | ((with_reducible apply wp_rd_s); exact rfl) | ((with_reducible apply wp_rd_sv); exact rfl) | ((with_reducible apply wp_kp_sv); exact rfl) | ((with_reducible apply wp_wks); exact rfl) | ((with_reducible apply Tagged.tup); exact rfl) | ((with_reducible apply wp_lockL); exact rfl) | ((with_reducible apply cp_is); exact rfl) | ((with_reducible apply cp_isn); exact rfl) | ((with_reducible apply o_ixl); exact rfl) | ((with_reducible apply o_ixt); exact rfl) | ((with_reducible apply wp_tt); exact rfl) | ((with_reducible apply wp_ff); exact rfl) | ((with_reducible apply wp_tt); assumption) | ((with_reducible apply wp_ff); assumption) | ((with_reducible refine o_ixF ?_ (by assumption)); intro _) | ((with_reducible apply wp_lockF); exact rfl; (repeat (first | exact SetAt.zero | apply SetAt.succ))) | ((with_reducible apply UnLk.mk); exact rfl; (repeat (first | exact SetAt.zero | apply SetAt.succ))) | ((with_reducible apply Both.mk); (first | exact rfl | exact len60 rfl | assumption)) | ((with_reducible apply b_isaT); exact rfl; (first | exact rfl | assumption)) | ((with_reducible apply b_isaF); exact rfl; (first | exact rfl | assumption)) | ((with_reducible apply wp_appC); exact rfl; (repeat (first | exact SetAt.zero | apply SetAt.succ))) | ((with_reducible apply wp_kp_s); exact rfl; (repeat (first | exact SetAt.zero | apply SetAt.succ))) | ((with_reducible apply wp_put_v); (repeat (first | exact SetAt.zero | apply SetAt.succ)); (first | exact rfl | assumption)) | ((with_reducible apply wp_put_f); (repeat (first | exact SetAt.zero | apply SetAt.succ)); (first | exact rfl | assumption)) | ((with_reducible apply wp_putSl); (repeat (first | exact SetAt.zero | apply SetAt.succ)); (first | exact rfl | assumption)) | ((with_reducible apply wp_setAt); exact rfl; exact rfl; (repeat (first | exact SetAt.zero | apply SetAt.succ)))))
/-! ### all_orders -/
@[reducible] def fAll : Fn := ⟨[false], 6, (.seq (.asg 1 (.lst (.cons (.tup .nil) .nil))) (.seq (.forr (.nm 2) .range1 (.cons (.var 0) .nil) (.seq (.asg 1 (.comp2 [3, 4, 5] [5] (.nm 4) .plain (.cons (.var 1) .nil) .nil (.nm 5) .range1 (.cons (.var 0) .nil) (.cons (.cmp .NotIn (.var 5) (.var 4)) .nil) (.bin .Add (.var 4) (.tup (.cons (.var 5) .nil))))) .nil)) (.seq (.ret (.var 1)) .nil)))⟩
theorem wp_turnsQ {n : En} {T : Type} {own : List Nat} {body : PyData → M (List PyData)} {ts : List T} {enc : T → PyData} {R : List PyData → En → Prop} (g : T → List PyData) (J : En → Prop) (h0 : J n) (hs : ∀ x ∈ ts, ∀ n', J n' → wp (body (enc x)) (wipeN n' own) fun r n2 => r = g x ∧ J n2) (q : ∀ n', J n' → R (ts.flatMap g) n') :
    wp (turns (fun x => inBlock own (body x)) (ts.map enc)) n R := by
  refine wp_turns (fun done acc n' => acc = done.flatMap g ∧ J n') ⟨rfl, h0⟩ (fun done acc x rest n' e h => ?_) fun acc n' h => ?_
  · refine wp_mono (hs x (by rw [e]; simp) n' h.2) fun r n2 h2 => ⟨?_, h2.2⟩
    rw [h.1, h2.1]
    simp
  · rw [h.1]
    exact q n' h.2
theorem flat_if {T : Type} {p : T → Bool} {e : T → PyData} (ts : List T) : ts.flatMap (fun x => if p x = true then [e x] else []) = (ts.filter p).map e := by
  induction ts with
  | nil => rfl
  | cons x xs ih =>
    rw [List.flatMap_cons, ih, List.filter_cons]
    by_cases h : p x = true
    · rw [if_pos h, if_pos h]; rfl
    · rw [if_neg h, if_neg h]; rfl
theorem r_all {p : List Fn} {i k m : Nat} (hp : p[i]? = some fAll) (hm : m ≤ 7) : run p (k + 1) i [.val (.int (m : Int))] = .ok true (.list ((ords m m).map tN)) [.emp] := by
  refine run_wp (n0 := [_, _, _, _, _, _]) hp rfl (Nat.le_of_ble_eq_true rfl) rfl ?_
  sleep 1
  refine wp_r1 ?_ rfl (by omega)
  sleep 1
  refine wp_forN (fun t n' => ∃ a, n' = [.val (.int (m : Int)), .own false false (.list ((ords m t).map tN)), a, .emp, .emp, .emp] ∧ openS a = true) ⟨_, rfl, rfl⟩ ?_ ?_
  · rintro t n' ht ⟨a, rfl, oa⟩
    sleep 1
    have hE : (ords m t).flatMap (fun row => ((List.range m).filter fun k => !row.contains k).map fun k => tN (row ++ [k])) = (ords m (t + 1)).map tN := by
      show _ = List.map tN (List.flatMap _ _)
      rw [List.map_flatMap]
      congr 1
      funext row
      rw [List.map_map]
      rfl
    refine wp_blockP (fun row => ((List.range m).filter fun k => !row.contains k).map fun k => tN (row ++ [k])) rfl (by repeat (first | exact SetAt.zero | apply SetAt.succ | exact Wiped.nil | apply Wiped.cons)) (fun row hrow => ?_) ?_ ?_
    · have hl : row.length = t := (ords_mem hrow).1
      sleep 1
      refine wp_r1 ?_ rfl (by omega)
      sleep 1
      refine wp_turnsQ (fun k => if (!row.contains k) = true then [tN (row ++ [k])] else []) (fun n' => ∃ s, n' = [.val (.int (m : Int)), .own true false (.list ((ords m t).map tN)), .val (.int (t : Int)), .emp, .val (tN row), s]) ⟨_, rfl⟩ ?_ ?_
      · rintro k hk n' ⟨s, rfl⟩
        show wp _ [.val (.int (m : Int)), .own true false (.list ((ords m t).map tN)), .val (.int (t : Int)), .emp, .val (tN row), .emp] _
        sleep 1
        refine cp_notin ?_ (by rw [sizeLine_eq]; omega)
        sleep 1
        refine wp_if ?_ ?_
        · intro h
          sleep 1
          refine o_addT ?_ (by rw [List.length_map, sizeLine_eq]; simp; omega)
          sleep 1
          refine ⟨?_, _, rfl⟩
          rw [if_pos h]
          simp [tN]
        · intro h
          sleep 1
          refine ⟨?_, _, rfl⟩
          rw [if_neg (by rw [h]; decide)]
      · rintro n' ⟨s, rfl⟩
        exact ⟨by rw [flat_if], by repeat (first | exact SetAt.zero | apply SetAt.succ | exact Wiped.nil | apply Wiped.cons)⟩
    · have := ords_size (t := t + 1) hm ht
      rw [hE, List.length_map, sizeLine_eq]
      omega
    · rw [hE]
      sleep 1
      exact ⟨_, rfl, rfl⟩
  · rintro n' ⟨a, rfl, oa⟩
    sleep 1
    rfl
end DM
set_option Elab.async false
set_option linter.all false
set_option maxRecDepth 100000
set_option maxHeartbeats 1000000
/-! DMY: slices, sorted, min, max, index; what they give. -/
namespace DM
open PySem
/-- a name that holds nothing or a value -/
def FS (s : Sl) : Prop := s = .emp ∨ ∃ d, s = .val d
theorem FS.emp : FS .emp := .inl rfl
theorem FS.val {d : PyData} : FS (.val d) := .inr ⟨d, rfl⟩
theorem FS.op {s : Sl} (h : FS s) : openS s = true := by rcases h with rfl | ⟨d, rfl⟩ <;> rfl
/-! ### slices -/
theorem cut_map {T : Type} {enc : T → PyData} {ts : List T} {lo hi : Option Int} : cutD (ts.map enc) lo hi = (cutD ts lo hi).map enc := by
  unfold cutD
  rw [List.length_map, List.map_take, List.map_drop]
theorem cut_to {T : Type} {ts : List T} {k : Nat} : cutD ts none (some (k : Int)) = ts.take k := by
  unfold cutD
  rw [HT.sIx_none, HT.sIx_nat, List.drop_zero, Nat.sub_zero]
  by_cases h : k ≤ ts.length
  · rw [Nat.min_eq_left h]
  · rw [Nat.min_eq_right (by omega), List.take_of_length_le (Nat.le_refl _), List.take_of_length_le (by omega)]
theorem cut_from {T : Type} {ts : List T} {k : Nat} : cutD ts (some (k : Int)) none = ts.drop k := by
  unfold cutD
  rw [HT.sIx_none, HT.sIx_nat]
  by_cases h : k ≤ ts.length
  · rw [Nat.min_eq_left h, List.take_of_length_le (by rw [List.length_drop]; omega)]
  · rw [Nat.min_eq_right (by omega), List.drop_of_length_le (Nat.le_refl _), List.drop_of_length_le (by omega), List.take_nil]
theorem cut_mid {T : Type} {ts : List T} {a b : Nat} (ha : a ≤ ts.length) (hb : b ≤ ts.length) : cutD ts (some (a : Int)) (some (b : Int)) = (ts.drop a).take (b - a) := by
  unfold cutD
  rw [HT.sIx_nat, HT.sIx_nat, Nat.min_eq_left ha, Nat.min_eq_left hb]
section
variable {n : En} {R : Opd → En → Prop} {i j : Int} {a b k : Nat}
theorem s_to {T : Type} {enc : T → PyData} {ts : List T} (q : R (.v (.tuple ((ts.take k).map enc))) n) (e : i = (k : Int)) : wp (opt (slcD (.tuple (ts.map enc)) none (some i))) n R := by
  subst e
  refine wp_opt (a := .v (.tuple ((ts.take k).map enc))) ?_ q
  show some (Opd.v (.tuple (cutD (ts.map enc) _ _))) = _
  rw [cut_map, cut_to]
theorem s_from {T : Type} {enc : T → PyData} {ts : List T} (q : R (.v (.tuple ((ts.drop k).map enc))) n) (e : i = (k : Int)) : wp (opt (slcD (.tuple (ts.map enc)) (some i) none)) n R := by
  subst e
  refine wp_opt (a := .v (.tuple ((ts.drop k).map enc))) ?_ q
  show some (Opd.v (.tuple (cutD (ts.map enc) _ _))) = _
  rw [cut_map, cut_from]
theorem s_mid {T : Type} {enc : T → PyData} {ts : List T} (q : R (.v (.tuple (((ts.drop a).take (b - a)).map enc))) n) (e : i = (a : Int)) (e2 : j = (b : Int)) (ha : a ≤ ts.length) (hb : b ≤ ts.length) : wp (opt (slcD (.tuple (ts.map enc)) (some i) (some j))) n R := by
  subst e e2
  refine wp_opt (a := .v (.tuple (((ts.drop a).take (b - a)).map enc))) ?_ q
  show some (Opd.v (.tuple (cutD (ts.map enc) _ _))) = _
  rw [cut_map, cut_mid ha hb]
/-- rows put together -/
theorem o_cat {T : Type} {enc : T → PyData} {xs ys : List T} (q : R (.v (.tuple ((xs ++ ys).map enc))) n) (h : xs.length + ys.length ≤ sizeLine) : wp (opt (binD .Add (.tuple (xs.map enc)) (.tuple (ys.map enc)))) n R := by
  rw [List.map_append] at q
  exact o_addT q (by rw [List.length_map, List.length_map]; exact h)
theorem o_cat1 {xs : List Nat} {z : Nat} (q : R (.v (tN (xs ++ [z]))) n) (h : xs.length + 1 ≤ sizeLine) : wp (opt (binD .Add (tN xs) (.tuple [.int (z : Int)]))) n R :=
  o_cat (enc := fun (k : Nat) => PyData.int (k : Int)) (ys := [z]) q h
theorem o_catL {T : Type} {enc : T → PyData} {xs ys : List T} (q : R (.f (.list ((xs ++ ys).map enc))) n) (h : xs.length + ys.length ≤ sizeLine) : wp (opt (binD .Add (.list (xs.map enc)) (.list (ys.map enc)))) n R := by
  rw [List.map_append] at q
  exact o_addL q (by rw [List.length_map, List.length_map]; exact h)
end
/-! ### the last -/
section
variable {n : En} {R : PyData → En → Prop}
theorem l_Z {xs : List Int} (q : R (.int (xs.getLastD 0)) n) (h : xs ≠ []) : wp (opt (idxD (tZ xs) (.int (-1)))) n R := wp_opt (at_last h) q
theorem l_Zl {xs : List Int} (q : R (.int (xs.getLastD 0)) n) (h : xs ≠ []) : wp (opt (idxD (.list (xs.map .int)) (.int (-1)))) n R := wp_opt (at_last h) q
theorem l_R {xs : List (List Int)} (q : R (tZ (xs.getLastD [])) n) (h : xs ≠ []) : wp (opt (idxD (.list (xs.map tZ)) (.int (-1)))) n R := wp_opt (at_last (enc := tZ) h) q
end
/-! ### least and greatest -/
def minL : List PyData → PyData
  | [] => .none
  | x :: xs => W.minD x xs
def maxL : List PyData → PyData
  | [] => .none
  | x :: xs => W.maxD x xs
def minZ : List Int → Int
  | [] => 0
  | x :: xs => xs.foldl (fun a y => if y < a then y else a) x
def maxZ : List Int → Int
  | [] => 0
  | x :: xs => xs.foldl (fun a y => if a < y then y else a) x
theorem minL_Z (xs : List Int) (h : xs ≠ []) : minL (xs.map .int) = .int (minZ xs) := by
  cases xs with
  | nil => exact absurd rfl h
  | cons x xs =>
    show W.minD (.int x) (xs.map .int) = .int (xs.foldl _ x)
    unfold W.minD
    clear h
    induction xs generalizing x with
    | nil => rfl
    | cons y xs ih =>
      rw [List.map_cons, List.foldl_cons, List.foldl_cons, W.dataLt_int]
      by_cases hy : y < x
      · rw [if_pos (decide_eq_true hy), if_pos hy]; exact ih y
      · rw [if_neg (by rw [decide_eq_false hy]; decide), if_neg hy]; exact ih x
theorem maxL_Z (xs : List Int) (h : xs ≠ []) : maxL (xs.map .int) = .int (maxZ xs) := by
  cases xs with
  | nil => exact absurd rfl h
  | cons x xs =>
    show W.maxD (.int x) (xs.map .int) = .int (xs.foldl _ x)
    unfold W.maxD
    clear h
    induction xs generalizing x with
    | nil => rfl
    | cons y xs ih =>
      rw [List.map_cons, List.foldl_cons, List.foldl_cons, W.dataLt_int]
      by_cases hy : x < y
      · rw [if_pos (decide_eq_true hy), if_pos hy]; exact ih y
      · rw [if_neg (by rw [decide_eq_false hy]; decide), if_neg hy]; exact ih x
theorem minZ_le : ∀ {xs : List Int} {y : Int}, y ∈ xs → minZ xs ≤ y
  | x :: xs, y, h => by
    show xs.foldl _ x ≤ y
    have go : ∀ (xs : List Int) (x y : Int), (y = x ∨ y ∈ xs) → xs.foldl (fun a y => if y < a then y else a) x ≤ y := by
      intro xs
      induction xs with
      | nil =>
        intro x y h
        rcases h with rfl | h
        · exact Int.le_refl _
        · exact nomatch h
      | cons z xs ih =>
        intro x y h
        rw [List.foldl_cons]
        have h0 := ih (if z < x then z else x) (if z < x then z else x) (.inl rfl)
        rcases h with rfl | h
        · split at h0 <;> rename_i hz <;> simp only [hz, if_true, if_false] <;> omega
        · rcases List.mem_cons.mp h with rfl | h
          · split at h0 <;> rename_i hz <;> simp only [hz, if_true, if_false] <;> omega
          · exact ih _ y (.inr h)
    exact go xs x y (List.mem_cons.mp h)
theorem minZ_mem : ∀ {xs : List Int}, xs ≠ [] → minZ xs ∈ xs
  | x :: xs, _ => by
    show xs.foldl _ x ∈ _
    have go : ∀ (xs : List Int) (x : Int), xs.foldl (fun a y => if y < a then y else a) x ∈ x :: xs := by
      intro xs
      induction xs with
      | nil => intro x; exact List.mem_cons_self ..
      | cons z xs ih =>
        intro x
        rw [List.foldl_cons]
        have := ih (if z < x then z else x)
        rcases List.mem_cons.mp this with e | h
        · rw [e]
          split
          · exact List.mem_cons_of_mem _ (List.mem_cons_self ..)
          · exact List.mem_cons_self ..
        · exact List.mem_cons_of_mem _ (List.mem_cons_of_mem _ h)
    exact go xs x
theorem maxZ_mem : ∀ {xs : List Int}, xs ≠ [] → maxZ xs ∈ xs
  | x :: xs, _ => by
    show xs.foldl _ x ∈ _
    have go : ∀ (xs : List Int) (x : Int), xs.foldl (fun a y => if a < y then y else a) x ∈ x :: xs := by
      intro xs
      induction xs with
      | nil => intro x; exact List.mem_cons_self ..
      | cons z xs ih =>
        intro x
        rw [List.foldl_cons]
        have := ih (if x < z then z else x)
        rcases List.mem_cons.mp this with e | h
        · rw [e]
          split
          · exact List.mem_cons_of_mem _ (List.mem_cons_self ..)
          · exact List.mem_cons_self ..
        · exact List.mem_cons_of_mem _ (List.mem_cons_of_mem _ h)
    exact go xs x
theorem minL_mem : ∀ {xs : List PyData}, xs ≠ [] → minL xs ∈ xs
  | x :: xs, _ => by
    show W.minD x xs ∈ _
    unfold W.minD
    have go : ∀ (xs : List PyData) (x : PyData), xs.foldl (fun a y => if W.dataLt y a = true then y else a) x ∈ x :: xs := by
      intro xs
      induction xs with
      | nil => intro x; exact List.mem_cons_self ..
      | cons z xs ih =>
        intro x
        rw [List.foldl_cons]
        have := ih (if W.dataLt z x = true then z else x)
        rcases List.mem_cons.mp this with e | h
        · rw [e]
          split
          · exact List.mem_cons_of_mem _ (List.mem_cons_self ..)
          · exact List.mem_cons_self ..
        · exact List.mem_cons_of_mem _ (List.mem_cons_of_mem _ h)
    exact go xs x
theorem lt_trans' {a b c : PyData} (h1 : W.dataLt a b = true) (h2 : W.dataLt b c = true) : W.dataLt a c = true := (PyProof.Rows.listOrd PyProof.Rows.itemOrd).trans _ _ _ h1 h2
/-- nothing is less than the least -/
theorem minL_le : ∀ {xs : List PyData} {y : PyData}, y ∈ xs → W.dataLt y (minL xs) = false
  | x :: xs, y, h => by
    show W.dataLt y (W.minD x xs) = false
    unfold W.minD
    have go : ∀ (xs : List PyData) (x y : PyData), (W.dataLt y x = false ∨ y ∈ xs) → W.dataLt y (xs.foldl (fun a y => if W.dataLt y a = true then y else a) x) = false := by
      intro xs
      induction xs with
      | nil =>
        intro x y h
        rcases h with h | h
        · exact h
        · exact nomatch h
      | cons z xs ih =>
        intro x y h
        rw [List.foldl_cons]
        refine ih _ y ?_
        rcases h with h | h
        · left
          split
          · rename_i hz
            cases hy : W.dataLt y z with
            | false => rfl
            | true => rw [lt_trans' hy hz] at h; cases h
          · exact h
        · rcases List.mem_cons.mp h with rfl | h
          · left
            split
            · exact (PyProof.Rows.listOrd PyProof.Rows.itemOrd).irrefl _
            · rename_i hz
              simpa using hz
          · exact .inr h
    refine go xs x y ?_
    rcases List.mem_cons.mp h with rfl | h
    · exact .inl ((PyProof.Rows.listOrd PyProof.Rows.itemOrd).irrefl _)
    · exact .inr h
theorem maxOk_by {xs : List PyData} (h1 : ∀ a ∈ xs, ∀ b ∈ xs, W.alike a b = true) (h2 : ∀ a ∈ xs, notNone a = true) (h3 : ∀ a ∈ xs, dok a = true) : maxOk xs = true := by
  unfold maxOk allAlike
  rw [Bool.and_eq_true, Bool.and_eq_true]
  exact ⟨⟨List.all_eq_true.mpr fun a ha => List.all_eq_true.mpr (h1 a ha), List.all_eq_true.mpr h2⟩, List.all_eq_true.mpr h3⟩
theorem maxOk_Z (xs : List Int) : maxOk (xs.map .int) = true := maxOk_by (fun a ha b hb => by
    obtain ⟨_, _, rfl⟩ := List.mem_map.mp ha
    obtain ⟨_, _, rfl⟩ := List.mem_map.mp hb
    rfl) (fun a ha => by
    obtain ⟨_, _, rfl⟩ := List.mem_map.mp ha
    rfl) (fun a ha => by
    obtain ⟨_, _, rfl⟩ := List.mem_map.mp ha
    exact ok_int _)
section
variable {n : En} {R : Opd → En → Prop}
theorem b_minL {xs : List PyData} (q : R (.v (minL xs)) n) (h : xs ≠ []) (ok : maxOk xs = true) : wp (opt (bltD .min [.list xs])) n R := by
  cases xs with
  | nil => exact absurd rfl h
  | cons x xs =>
    refine wp_opt (a := .v (W.minD x xs)) ?_ q
    show (if maxOk (x :: xs) = true then _ else _) = _
    rw [if_pos ok]
theorem b_maxL {xs : List PyData} (q : R (.v (maxL xs)) n) (h : xs ≠ []) (ok : maxOk xs = true) : wp (opt (bltD .max [.list xs])) n R := by
  cases xs with
  | nil => exact absurd rfl h
  | cons x xs =>
    refine wp_opt (a := .v (W.maxD x xs)) ?_ q
    show (if maxOk (x :: xs) = true then _ else _) = _
    rw [if_pos ok]
theorem b_minZ {xs : List Int} (q : R (.v (.int (minZ xs))) n) (h : xs ≠ []) : wp (opt (bltD .min [.list (xs.map .int)])) n R :=
  b_minL (by rw [minL_Z xs h]; exact q) (by simpa using h) (maxOk_Z xs)
theorem b_maxZ {xs : List Int} (q : R (.v (.int (maxZ xs))) n) (h : xs ≠ []) : wp (opt (bltD .max [.list (xs.map .int)])) n R :=
  b_maxL (by rw [maxL_Z xs h]; exact q) (by simpa using h) (maxOk_Z xs)
/-! ### sorted -/
def srtE {T : Type} (enc : T → PyData) (ts : List T) : List T := ts.mergeSort fun a b => W.dataLe false id (enc a) (enc b)
theorem srtE_perm {T : Type} (enc : T → PyData) (ts : List T) : (srtE enc ts).Perm ts := List.mergeSort_perm ..
theorem srtE_map {T : Type} (enc : T → PyData) (ts : List T) : (srtE enc ts).map enc = (ts.map enc).mergeSort (W.dataLe false id) := List.map_mergeSort fun _ _ _ _ => rfl
theorem b_srt {T : Type} {enc : T → PyData} {ts : List T} (q : R (.f (.list ((srtE enc ts).map enc))) n) (h : (allAlike (ts.map enc) && sortable (ts.map enc) && (ts.map enc).all dok) = true) : wp (opt (bltD .sorted [.list (ts.map enc)])) n R := by
  rw [srtE_map] at q
  refine wp_opt (a := .f (.list ((ts.map enc).mergeSort (W.dataLe false id)))) ?_ q
  show (if _ then _ else _) = _
  rw [if_pos h]
theorem b_srtT {T : Type} {enc : T → PyData} {ts : List T} (q : R (.f (.list ((srtE enc ts).map enc))) n) (h : (allAlike (ts.map enc) && sortable (ts.map enc) && (ts.map enc).all dok) = true) : wp (opt (bltD .sorted [.tuple (ts.map enc)])) n R := by
  rw [srtE_map] at q
  refine wp_opt (a := .f (.list ((ts.map enc).mergeSort (W.dataLe false id)))) ?_ q
  show (if _ then _ else _) = _
  rw [if_pos h]
theorem sort_ok {xs : List PyData} (h1 : ∀ a ∈ xs, ∀ b ∈ xs, W.alike a b = true) (h2 : (xs.all fun d => match d with | .tuple (_ :: _) => true | _ => false) = true ∨ (xs.all fun d => match d with | .none => false | .tuple _ => false | _ => true) = true) (h3 : ∀ a ∈ xs, dok a = true) : (allAlike xs && sortable xs && xs.all dok) = true := by
  unfold allAlike sortable
  rw [Bool.and_eq_true, Bool.and_eq_true, Bool.or_eq_true]
  exact ⟨⟨List.all_eq_true.mpr fun a ha => List.all_eq_true.mpr (h1 a ha), h2⟩, List.all_eq_true.mpr h3⟩
end
/-- a number and a place -/
@[reducible] def eP (x : Int × Nat) : PyData := .tuple [.int x.1, .int (x.2 : Int)]
theorem sort_eP (ts : List (Int × Nat)) : (allAlike (ts.map eP) && sortable (ts.map eP) && (ts.map eP).all dok) = true := sort_ok (fun a ha b hb => by
    obtain ⟨_, _, rfl⟩ := List.mem_map.mp ha
    obtain ⟨_, _, rfl⟩ := List.mem_map.mp hb
    rfl) (.inl (List.all_eq_true.mpr fun a ha => by
    obtain ⟨_, _, rfl⟩ := List.mem_map.mp ha
    rfl)) (fun a ha => by
    obtain ⟨_, _, rfl⟩ := List.mem_map.mp ha
    rfl)
theorem sort_Z (ts : List Int) : (allAlike (ts.map .int) && sortable (ts.map .int) && (ts.map .int).all dok) = true := sort_ok (fun a ha b hb => by
    obtain ⟨_, _, rfl⟩ := List.mem_map.mp ha
    obtain ⟨_, _, rfl⟩ := List.mem_map.mp hb
    rfl) (.inr (List.all_eq_true.mpr fun a ha => by
    obtain ⟨_, _, rfl⟩ := List.mem_map.mp ha
    rfl)) (fun a ha => by
    obtain ⟨_, _, rfl⟩ := List.mem_map.mp ha
    exact ok_int _)
theorem sort_N (ts : List Nat) : (allAlike (ts.map fun (k : Nat) => PyData.int (k : Int)) && sortable (ts.map fun (k : Nat) => PyData.int (k : Int)) && (ts.map fun (k : Nat) => PyData.int (k : Int)).all dok) = true := sort_ok (fun a ha b hb => by
    obtain ⟨_, _, rfl⟩ := List.mem_map.mp ha
    obtain ⟨_, _, rfl⟩ := List.mem_map.mp hb
    rfl) (.inr (List.all_eq_true.mpr fun a ha => by
    obtain ⟨_, _, rfl⟩ := List.mem_map.mp ha
    rfl)) (fun a ha => by
    obtain ⟨_, _, rfl⟩ := List.mem_map.mp ha
    exact ok_int _)
theorem srtZ_sorted (ts : List Int) : (srtE PyData.int ts).Pairwise (· ≤ ·) := by
  have h := List.pairwise_mergeSort (le := fun a b => W.dataLe false id (PyData.int a) (.int b)) (fun a b c h1 h2 => by
    rw [W.dataLe_eq] at h1 h2 ⊢
    simp only [cond_false, id, W.dataLt_int, Bool.not_eq_true', decide_eq_false_iff_not] at h1 h2 ⊢
    omega) (fun a b => by
    rw [W.dataLe_eq]
    simp only [cond_false, id, W.dataLt_int, Bool.or_eq_true, Bool.not_eq_true', decide_eq_false_iff_not]
    omega) ts
  refine h.imp fun {a b} h => ?_
  rw [W.dataLe_eq] at h
  simp only [cond_false, id, W.dataLt_int, Bool.not_eq_true', decide_eq_false_iff_not] at h
  omega
theorem srtN_sorted (ts : List Nat) : (srtE (fun (k : Nat) => PyData.int (k : Int)) ts).Pairwise (· ≤ ·) := by
  have h := List.pairwise_mergeSort (le := fun (a b : Nat) => W.dataLe false id (PyData.int (a : Int)) (.int (b : Int))) (fun a b c h1 h2 => by
    rw [W.dataLe_eq] at h1 h2 ⊢
    simp only [cond_false, id, W.dataLt_int, Bool.not_eq_true', decide_eq_false_iff_not] at h1 h2 ⊢
    omega) (fun a b => by
    rw [W.dataLe_eq]
    simp only [cond_false, id, W.dataLt_int, Bool.or_eq_true, Bool.not_eq_true', decide_eq_false_iff_not]
    omega) ts
  refine h.imp fun {a b} h => ?_
  rw [W.dataLe_eq] at h
  simp only [cond_false, id, W.dataLt_int, Bool.not_eq_true', decide_eq_false_iff_not] at h
  omega
/-- the numbers below m, each once, in order -/
theorem srtN_range {l : List Nat} {m : Nat} (h : l.Perm (List.range m)) : srtE (fun (k : Nat) => PyData.int (k : Int)) l = List.range m := by
  have p : (srtE (fun (k : Nat) => PyData.int (k : Int)) l).Perm (List.range m) := (srtE_perm _ _).trans h
  exact p.eq_of_pairwise (le := (· ≤ ·)) (fun a b _ _ h1 h2 => Nat.le_antisymm h1 h2) (srtN_sorted l) (List.pairwise_lt_range.imp fun h => Nat.le_of_lt h)
/-! ### index -/
def place (xs : List Int) (v : Int) : Nat := xs.findIdx fun y => y == v
theorem place_lt {xs : List Int} {v : Int} (h : v ∈ xs) : place xs v < xs.length := List.findIdx_lt_length_of_exists ⟨v, h, by simp⟩
theorem place_data {xs : List Int} {v : Int} (h : v ∈ xs) : SeqAt.dataPlace (xs.map .int) (.int v) = some (place xs v) := by
  unfold SeqAt.dataPlace place
  induction xs with
  | nil => exact nomatch h
  | cons x xs ih =>
    rw [List.map_cons, List.findIdx?_cons, List.findIdx_cons]
    show (if (x == v) = true then some 0 else _) = _
    by_cases hx : x = v
    · subst hx; simp
    · rw [beq_eq_false_iff_ne.mpr hx]
      rcases List.mem_cons.mp h with e | h
      · exact absurd e.symm hx
      · rw [if_neg (by decide), ih h]
        rfl
theorem wp_place {n : En} {R : Opd → En → Prop} {o o2 : Opd} {xs : List Int} {v : Int} (q : R (.v (.int (place xs v : Nat))) n) (ho : rd o n = .ok (.list (xs.map .int)) n) (h2 : rd o2 n = .ok (.int v) n) (hv : v ∈ xs) (hl : xs.length ≤ sizeLine) : wp (mthM .index .lst o [o2]) n R := by
  refine wp_bnd ⟨_, _, ho, wp_bnd (wp_rds ⟨_, _, h2, wp_rds0 ?_⟩)⟩
  refine wp_bnd (wp_opt (a := xs.map .int) rfl ?_)
  refine wp_bnd (wp_opt (a := .int (place xs v : Nat)) ?_ (wp_ret q))
  unfold idxM
  rw [(LV.lst (k := 0) (fun x hx => by
    obtain ⟨_, _, rfl⟩ := List.mem_map.mp hx
    exact .int _) (by rw [List.length_map]; exact hl)).dok (by decide), ok_int, Bool.and_self, if_pos rfl, place_data hv]
  rfl
theorem g_add {n : En} {R : PyData → En → Prop} {i j : Int} (q : R (.int (i + j)) n) : wp (opt (augD .Add (.int i) (.int j))) n R := wp_opt rfl q
theorem g_sub {n : En} {R : PyData → En → Prop} {i j : Int} (q : R (.int (i - j)) n) : wp (opt (augD .Sub (.int i) (.int j))) n R := wp_opt rfl q
/-- enumerate -/
theorem enum_map {T : Type} {enc : T → PyData} (ts : List T) : enumD (ts.map enc) = ts.zipIdx.map fun x => PyData.tuple [.int (x.2 : Int), enc x.1] := by
  unfold enumD
  rw [List.length_map]
  apply List.ext_getElem?
  intro i
  rw [List.getElem?_zipWith, List.getElem?_map, List.getElem?_map, List.getElem?_zipIdx]
  by_cases h : i < ts.length
  · rw [List.getElem?_range h, List.getElem?_eq_getElem h]
    simp
  · rw [List.getElem?_eq_none (by rw [List.length_range]; omega), List.getElem?_eq_none (by omega)]
    rfl
theorem wp_wke {n : En} {T : Type} {enc : T → PyData} {ts : List T} {R : List PyData × List Nat → En → Prop} (q : R (ts.zipIdx.map fun x => PyData.tuple [.int (x.2 : Int), enc x.1], []) n) : wp (walk .enum [.f (.list (ts.map enc))]) n R := by
  rw [← enum_map] at q
  exact ⟨_, _, rfl, q⟩
theorem blistr_eq (a b : Int) (h : (small62 a && small62 b && decide ((b - a).toNat ≤ 16777216)) = true) : bltD .listr [.int a, .int b] = some (.f (.list (rng a b))) := by
  have e : bltD .listr [.int a, .int b] = if (small62 a && small62 b && decide ((b - a).toNat ≤ 16777216)) = true then some (.f (.list (rng a b))) else none := by
    simp only [bltD, blistrD]
  rw [e, if_pos h]
theorem b_listr {n : En} {R : Opd → En → Prop} {m : Nat} (q : R (.f (.list ((List.range m).map fun (k : Nat) => PyData.int (k : Int)))) n) (h : m ≤ 1000000) : wp (opt (bltD .listr [.int 0, .int (m : Int)])) n R := by
  rw [← rng_nat] at q
  refine wp_opt (a := .f (.list (rng 0 (m : Int)))) ?_ q
  have h0 : (small62 0 && small62 (m : Int) && decide (((m : Int) - 0).toNat ≤ 16777216)) = true :=
    (Bool.and_eq_true _ _).mpr ⟨(Bool.and_eq_true _ _).mpr ⟨small_nat (b := 0) (Nat.two_pow_pos 62), small_nat (b := m) (by omega)⟩, decide_eq_true (by omega)⟩
  exact blistr_eq _ _ h0
/-! ### equal data -/
theorem eqvAll_self : ∀ {xs : List PyData}, (∀ x ∈ xs, PyData.eqv x x = true) → PyData.eqvAll xs xs = true
  | [], _ => rfl
  | x :: xs, h => by
    rw [PyData.eqvAll, h x (List.mem_cons_self ..), eqvAll_self fun y hy => h y (List.mem_cons_of_mem _ hy)]
    rfl
theorem LV.self {k : Nat} {d : PyData} (h : LV k d) : PyData.eqv d d = true := by
  induction h with
  | non => rfl
  | bool b => cases b <;> rfl
  | int i => show (i == i) = true; simp
  | tup _ _ ih => rw [PyData.eqv]; exact eqvAll_self ih
  | lst _ _ ih => rw [PyData.eqv]; exact eqvAll_self ih
section
variable {n : En} {R : Bool → En → Prop}
theorem cp_same {k : Nat} {d : PyData} (q : R true n) (h : LV k d) (hk : k ≤ 60) : wp (opt (cmpD .Eq d d)) n R := by
  refine wp_opt (a := true) ?_ q
  show (if (dok d && dok d) = true then _ else _) = _
  rw [h.dok hk, Bool.and_self, if_pos rfl, h.self]
theorem cp_samen {k : Nat} {d : PyData} (q : R false n) (h : LV k d) (hk : k ≤ 60) : wp (opt (cmpD .NotEq d d)) n R := by
  refine wp_opt (a := false) ?_ q
  show (if (dok d && dok d) = true then _ else _) = _
  rw [h.dok hk, Bool.and_self, if_pos rfl, h.self]
  rfl
end
end DM
set_option Elab.async false
set_option linter.all false
set_option maxRecDepth 100000
set_option maxHeartbeats 1000000
/-! DMZ: more helpers: ends of orders, pairs kept, pairs drawn. -/
namespace DM
open PySem
local macro_rules
  | `(tactic| sleep 1) => `(tactic| repeat (first | with_reducible (first | refine wp_seq ?_ | refine wp_con ?_ | refine wp_evs ?_ | refine wp_evs0 ?_ | refine wp_rd_v ?_ | refine wp_rd_f ?_ | refine wp_rds ?_ | refine wp_rds0 ?_ | refine wp_kp_v ?_ | refine wp_kp_f ?_ | refine wp_keeps ?_ | refine wp_keeps0 ?_ | refine wp_bin ?_ | refine wp_idx ?_ | refine wp_blt ?_ | refine wp_cmp ?_ | refine wp_tup ?_ | refine wp_lst ?_ | refine wp_call ?_ | refine wp_and ?_ | refine wp_or ?_ | refine wp_not ?_ | refine wp_ife ?_ | refine wp_slc ?_ | refine wp_asI ?_ | refine wp_neg ?_ | refine IntOk.mk ?_ | refine Tagged.lst ?_ | refine wp_mth ?_ | refine wp_app ?_ | refine wp_tru ?_ | refine o_add ?_ | refine o_sub ?_ | refine cp_eq ?_ | refine cp_ne ?_ | refine cp_lt ?_ | refine cp_gt ?_ | refine cp_le ?_ | refine cp_ge ?_ | refine tr_b ?_ | refine wp_t ?_ | refine wp_f ?_ | refine wp_asg ?_ | refine wp_put_s ?_ | refine wp_retS ?_ | refine wp_retN ?_ | refine wp_ifS ?_ | refine wp_setI ?_ | refine wp_aug ?_ | refine wp_exp ?_ | refine wp_par ?_ | refine wp_sts ?_ | refine wp_sts0 ?_ | refine wp_st_v ?_ | refine wp_st_f ?_ | refine wp_st_s ?_ | refine wp_pa ?_ | refine wp_pa0 ?_ | refine wp_asgT ?_ | refine wp_for ?_ | refine wp_nil ?_ | refine wp_brk ?_ | refine wp_cont ?_ | refine wp_comp ?_ | refine wp_comp2 ?_ | refine wp_tst0 ?_ | refine wp_tst ?_ | refine wp_nm ?_ | refine wp_tu ?_ | refine wp_ts ?_ | refine wp_ts0 ?_ | refine wp_wkvt ?_ | refine wp_wkvl ?_ | refine wp_wkfl ?_ | refine wp_lock0 ?_ | refine wp_wke ?_ | refine g_add ?_ | refine g_sub ?_ | refine wp_bnd ?_ | refine wp_ret ?_ | refine wp_some ?_ | refine b_lenF ?_ | refine b_lenl ?_ | refine b_lent ?_ | refine b_abs ?_ | refine b_int ?_ | refine b_max ?_ | refine b_min ?_ | refine b_sum ?_ | refine b_sumT ?_ | refine b_tup ?_ | refine b_lst ?_ | refine b_lstt ?_) | ((with_reducible apply wp_var_v); exact rfl) | ((with_reducible apply wp_var_o); exact rfl) | ((with_reducible apply wp_rd_s); exact rfl) | ((with_reducible apply wp_rd_sv); exact rfl) | ((with_reducible apply wp_kp_sv); exact rfl) | ((with_reducible apply wp_wks); exact rfl) | ((with_reducible apply Tagged.tup); exact rfl) | ((with_reducible apply wp_lockL); exact rfl) | ((with_reducible apply cp_is); exact rfl) | ((with_reducible apply cp_isn); exact rfl) | ((with_reducible apply o_ixl); exact rfl) | ((with_reducible apply o_ixt); exact rfl) | ((with_reducible apply wp_tt); exact rfl) | ((with_reducible apply wp_ff); exact rfl) | ((with_reducible apply wp_tt); assumption) | ((with_reducible apply wp_ff); assumption) | ((with_reducible refine o_ixF ?_ (by assumption)); intro _) | ((with_reducible apply wp_lockF); exact rfl; (repeat (first | exact SetAt.zero | apply SetAt.succ))) | ((with_reducible apply UnLk.mk); exact rfl; (repeat (first | exact SetAt.zero | apply SetAt.succ))) | ((with_reducible apply Both.mk); (first | exact rfl | exact len60 rfl | assumption)) | ((with_reducible apply b_isaT); exact rfl; (first | exact rfl | assumption)) | ((with_reducible apply b_isaF); exact rfl; (first | exact rfl | assumption)) | ((with_reducible apply wp_appC); exact rfl; (repeat (first | exact SetAt.zero | apply SetAt.succ))) | ((with_reducible apply wp_kp_s); exact rfl; (repeat (first | exact SetAt.zero | apply SetAt.succ))) | ((with_reducible apply wp_put_v); (repeat (first | exact SetAt.zero | apply SetAt.succ)); (first | exact rfl | assumption)) | ((with_reducible apply wp_put_f); (repeat (first | exact SetAt.zero | apply SetAt.succ)); (first | exact rfl | assumption)) | ((with_reducible apply wp_putSl); (repeat (first | exact SetAt.zero | apply SetAt.succ)); (first | exact rfl | assumption)) | ((with_reducible apply wp_setAt); exact rfl; exact rfl; (repeat (first | exact SetAt.zero | apply SetAt.succ)))))
theorem ig_mem {xs : List Int} {j : Nat} (h : j < xs.length) : ig xs j ∈ xs := by
  unfold ig
  rw [List.getD_eq_getElem?_getD, List.getElem?_eq_getElem h]
  exact List.getElem_mem h
theorem rep_flat (m : Nat) : (List.replicate m [PyData.int 0]).flatten = (List.replicate m (0 : Int)).map PyData.int := by
  induction m with
  | zero => rfl
  | succ m ih => rw [List.replicate_succ, List.flatten_cons, ih]; rfl
theorem map_of {T U : Type} {f : T → PyData} {g : U → PyData} {h : T → U} (e : ∀ x, f x = g (h x)) (l : List T) : l.map f = (l.map h).map g := by
  rw [List.map_map]
  exact List.map_congr_left fun x _ => e x
/-! ### ends of an order -/
def endS (times : List Int) (s : List Int × Int) (j : Nat) : List Int × Int := (s.1.set j (s.2 + ig times j), s.2 + ig times j)
def endF (times : List Int) (o : List Nat) : List Int × Int := o.foldl (endS times) (List.replicate times.length 0, 0)
def ends (times : List Int) (o : List Nat) : List Int := (endF times o).1
theorem endF_snoc (times : List Int) (o : List Nat) (j : Nat) : endF times (o ++ [j]) = endS times (endF times o) j := by
  unfold endF
  rw [List.foldl_append]
  rfl
theorem endF_len (times : List Int) (o : List Nat) : (endF times o).1.length = times.length := by
  unfold endF
  have go : ∀ (o : List Nat) (s : List Int × Int), (o.foldl (endS times) s).1.length = s.1.length := by
    intro o
    induction o with
    | nil => intro s; rfl
    | cons j o ih =>
      intro s
      rw [List.foldl_cons, ih]
      exact List.length_set ..
  rw [go, List.length_replicate]
theorem ends_len (times : List Int) (o : List Nat) : (ends times o).length = times.length := endF_len times o
@[reducible] def fLEnds : Fn := ⟨[false, false], 5, (.seq (.asg 2 (.bin .Mult (.lst (.cons (.con (.int 0)) .nil)) (.blt .len (.cons (.var 0) .nil)))) (.seq (.asg 3 (.con (.int 0))) (.seq (.forr (.nm 4) .plain (.cons (.var 1) .nil) (.seq (.asg 3 (.bin .Add (.var 3) (.idx (.var 0) (.var 4)))) (.seq (.setI (.var 2) (.var 4) (.var 3)) .nil))) (.seq (.ret (.blt .tuple (.cons (.var 2) .nil))) .nil))))⟩
@[reducible] def fEnds : Fn := ⟨[false, false], 5, (.seq (.par [2, 3] (.cons (.bin .Mult (.lst (.cons (.con (.int 0)) .nil)) (.blt .len (.cons (.var 0) .nil))) (.cons (.con (.int 0)) .nil))) (.seq (.forr (.nm 4) .plain (.cons (.var 1) .nil) (.seq (.aug .Add 3 (.idx (.var 0) (.var 4))) (.seq (.setI (.var 2) (.var 4) (.var 3)) .nil))) (.seq (.ret (.blt .tuple (.cons (.var 2) .nil))) .nil)))⟩
theorem r_lends {p : List Fn} {i k : Nat} {times : List Int} {o : List Nat} (hp : p[i]? = some fLEnds) (hj : ∀ j ∈ o, j < times.length) (hl : times.length ≤ 1000) : run p (k + 1) i [.val (tZ times), .val (tN o)] = .ok false (tZ (ends times o)) [.emp, .emp] := by
  refine run_wp (n0 := [_, _, _, _, _]) hp rfl (Nat.le_of_ble_eq_true rfl) rfl ?_
  sleep 1
  rw [List.length_map]
  refine o_mulL ?_ ⟨by omega, by omega, by simp [sizeLine_eq]; omega⟩
  rw [Int.toNat_natCast, rep_flat]
  sleep 1
  refine wp_forT (T := Nat) (fun done n' => ∃ a, n' = [.val (tZ times), .val (tN o), .own false false (.list ((endF times done).1.map .int)), .val (.int (endF times done).2), a] ∧ openS a = true) ⟨_, rfl, rfl⟩ ?_ ?_
  · rintro done j rest n' e ⟨a, rfl, oa⟩
    have hj1 : j < times.length := hj j (by rw [e]; simp)
    sleep 1
    refine o_igt ?_ rfl hj1
    sleep 1
    refine wp_setZ (enc := PyData.int) rfl (by repeat (first | exact SetAt.zero | apply SetAt.succ)) ?_ (by rw [endF_len]; exact hj1)
    sleep 1
    exact ⟨.val (.int (j : Int)), by rw [endF_snoc]; rfl, rfl⟩
  · rintro n' ⟨a, rfl, oa⟩
    sleep 1
    rfl
theorem r_ends {p : List Fn} {i k : Nat} {times : List Int} {o : List Nat} (hp : p[i]? = some fEnds) (hj : ∀ j ∈ o, j < times.length) (hl : times.length ≤ 1000) : run p (k + 1) i [.val (tZ times), .val (tN o)] = .ok false (tZ (ends times o)) [.emp, .emp] := by
  refine run_wp (n0 := [_, _, _, _, _]) hp rfl (Nat.le_of_ble_eq_true rfl) rfl ?_
  sleep 1
  rw [List.length_map]
  refine o_mulL ?_ ⟨by omega, by omega, by simp [sizeLine_eq]; omega⟩
  rw [Int.toNat_natCast, rep_flat]
  sleep 1
  refine wp_forT (T := Nat) (fun done n' => ∃ a, n' = [.val (tZ times), .val (tN o), .own false false (.list ((endF times done).1.map .int)), .val (.int (endF times done).2), a] ∧ openS a = true) ⟨_, rfl, rfl⟩ ?_ ?_
  · rintro done j rest n' e ⟨a, rfl, oa⟩
    have hj1 : j < times.length := hj j (by rw [e]; simp)
    sleep 1
    refine o_igt ?_ rfl hj1
    sleep 1
    refine wp_setZ (enc := PyData.int) rfl (by repeat (first | exact SetAt.zero | apply SetAt.succ)) ?_ (by rw [endF_len]; exact hj1)
    sleep 1
    exact ⟨.val (.int (j : Int)), by rw [endF_snoc]; rfl, rfl⟩
  · rintro n' ⟨a, rfl, oa⟩
    sleep 1
    rfl
/-! ### pairs -/
@[reducible] def eN2 (p : Nat × Nat) : PyData := .tuple [.int (p.1 : Int), .int (p.2 : Int)]
@[reducible] def tP (ps : List (Nat × Nat)) : PyData := .tuple (ps.map eN2)
def pos (o : List Nat) (a : Nat) : Nat := o.findIdx fun y => y == a
theorem pos_lt {o : List Nat} {a : Nat} (h : a ∈ o) : pos o a < o.length := List.findIdx_lt_length_of_exists ⟨a, h, by simp⟩
theorem pos_data {o : List Nat} {a : Nat} (h : a ∈ o) : SeqAt.dataPlace (o.map fun (k : Nat) => PyData.int (k : Int)) (.int (a : Int)) = some (pos o a) := by
  unfold SeqAt.dataPlace pos
  induction o with
  | nil => exact nomatch h
  | cons x xs ih =>
    rw [List.map_cons, List.findIdx?_cons, List.findIdx_cons]
    show (if ((x : Int) == (a : Int)) = true then some 0 else _) = _
    by_cases hx : x = a
    · subst hx; simp
    · rw [beq_eq_false_iff_ne.mpr hx, beq_eq_false_iff_ne.mpr (fun z => hx (by omega))]
      rcases List.mem_cons.mp h with e | h
      · exact absurd e.symm hx
      · rw [if_neg (by decide), ih h]
        rfl
theorem wp_posN {n : En} {R : Opd → En → Prop} {o o2 : Opd} {xs : List Nat} {a : Nat} (q : R (.v (.int (pos xs a : Nat))) n) (ho : rd o n = .ok (tN xs) n) (h2 : rd o2 n = .ok (.int (a : Int)) n) (ha : a ∈ xs) (hl : xs.length ≤ sizeLine) : wp (mthM .index .tup o [o2]) n R := by
  refine wp_bnd ⟨_, _, ho, wp_bnd (wp_rds ⟨_, _, h2, wp_rds0 ?_⟩)⟩
  refine wp_bnd (wp_opt (a := xs.map fun (k : Nat) => PyData.int (k : Int)) rfl ?_)
  refine wp_bnd (wp_opt (a := .int (pos xs a : Nat)) ?_ (wp_ret q))
  unfold idxM
  rw [(LV.lst (k := 0) (fun x hx => by
    obtain ⟨_, _, rfl⟩ := List.mem_map.mp hx
    exact .int _) (by rw [List.length_map]; exact hl)).dok (by decide), ok_int, Bool.and_self, if_pos rfl, pos_data ha]
  rfl
theorem cp_eqnil {n : En} {R : Bool → En → Prop} {k : Nat} {xs : List PyData} (q : R (decide (xs = [])) n) (h : LV k (.list xs)) (hk : k ≤ 60) : wp (opt (cmpD .Eq (.list xs) (.list []))) n R := by
  refine wp_opt (a := decide (xs = [])) ?_ q
  show (if (dok (.list xs) && dok (.list [])) = true then some (PyData.eqv (.list xs) (.list [])) else none) = _
  rw [h.dok hk, show dok (.list []) = true from rfl, Bool.and_self, if_pos rfl]
  cases xs with
  | nil => rfl
  | cons x xs => rfl
/-- a stands ahead of b, for each pair -/
def kept (ps : List (Nat × Nat)) (o : List Nat) : Bool := decide (ps.filter (fun p => decide (pos o p.1 > pos o p.2)) = [])
@[reducible] def fKept : Fn := ⟨[false, false], 5, (.seq (.ret (.cmp .Eq (.comp [2, 3, 4] (.tu (.cons (.nm 3) (.cons (.nm 4) .nil))) .plain (.cons (.var 1) .nil) (.cons (.cmp .Gt (.mth .index (.var 0) (.cons (.var 3) .nil)) (.mth .index (.var 0) (.cons (.var 4) .nil))) .nil) (.con (.int 1))) (.lst .nil))) .nil)⟩
theorem r_kept {p : List Fn} {i k : Nat} {ps : List (Nat × Nat)} {o : List Nat} (hp : p[i]? = some fKept) (hj : ∀ x ∈ ps, x.1 ∈ o ∧ x.2 ∈ o) (hl : o.length ≤ 1000) (hl2 : ps.length ≤ 1000) : run p (k + 1) i [.val (tN o), .val (tP ps)] = .ok false (.bool (kept ps o)) [.emp, .emp] := by
  refine run_wp (n0 := [_, _, _, _, _]) hp rfl (Nat.le_of_ble_eq_true rfl) rfl ?_
  sleep 1
  refine wp_blockF (T := Nat × Nat) (fun p => decide (pos o p.1 > pos o p.2)) (fun _ => .int 1) rfl (by repeat (first | exact SetAt.zero | apply SetAt.succ | exact Wiped.nil | apply Wiped.cons)) (fun x hx => ?_) ?_ (by rw [sizeLine_eq]; omega)
  · obtain ⟨h1, h2⟩ := hj x hx
    sleep 1
    refine wp_posN ?_ rfl rfl h1 (by rw [sizeLine_eq]; omega)
    sleep 1
    refine wp_posN ?_ rfl rfl h2 (by rw [sizeLine_eq]; omega)
    sleep 1
    refine wp_if ?_ ?_
    · intro h
      have h := of_decide_eq_true h
      sleep 1
      refine ⟨?_, by repeat (first | exact SetAt.zero | apply SetAt.succ | exact Wiped.nil | apply Wiped.cons)⟩
      rw [if_pos (decide_eq_true (by omega))]
    · intro h
      have h := of_decide_eq_false h
      sleep 1
      refine ⟨?_, by repeat (first | exact SetAt.zero | apply SetAt.succ | exact Wiped.nil | apply Wiped.cons)⟩
      rw [if_neg (by simp; omega)]
  · sleep 1
    refine cp_eqnil (k := 1) ?_ (.lst (fun x hx => by
      obtain ⟨_, _, rfl⟩ := List.mem_map.mp hx
      exact .int _) (by
      rw [List.length_map, sizeLine_eq]
      have := List.length_filter_le (fun p : Nat × Nat => decide (pos o p.1 > pos o p.2)) ps
      omega)) (by omega)
    have e : decide ((ps.filter (fun p => decide (pos o p.1 > pos o p.2))).map (fun _ => PyData.int 1) = []) = kept ps o := by
      unfold kept
      simp
    rw [e]
    sleep 1
    rfl
end DM
set_option Elab.async false
set_option linter.all false
set_option maxRecDepth 100000
set_option maxHeartbeats 1000000
/-! DMV: sums along an order. -/
namespace DM
open PySem
theorem sum_perm {a b : List Int} (h : a.Perm b) : a.sum = b.sum := by
  induction h with
  | nil => rfl
  | cons x _ ih => rw [List.sum_cons, List.sum_cons, ih]
  | swap x y l => rw [List.sum_cons, List.sum_cons, List.sum_cons, List.sum_cons]; omega
  | trans _ _ h1 h2 => rw [h1, h2]
theorem ig_set {h : List Int} {k j : Nat} {v : Int} (hk : k < h.length) : ig (h.set k v) j = if k = j then v else ig h j := by
  unfold ig
  rw [List.getD_eq_getElem?_getD, List.getD_eq_getElem?_getD, List.getElem?_set]
  by_cases e : k = j
  · subst e
    rw [if_pos rfl, if_pos hk, if_pos rfl]
    rfl
  · rw [if_neg e, if_neg e]
theorem ig_out {xs : List Int} {j : Nat} (h : ¬ j < xs.length) : ig xs j = 0 := by
  unfold ig
  rw [List.getD_eq_getElem?_getD, List.getElem?_eq_none (by omega)]
  rfl
theorem ig_nn {xs : List Int} (h : ∀ v ∈ xs, 0 ≤ v) (j : Nat) : 0 ≤ ig xs j := by
  by_cases hj : j < xs.length
  · exact h _ (ig_mem hj)
  · rw [ig_out hj]; exact Int.le_refl 0
theorem ig_rep (m : Nat) (v : Int) {j : Nat} (h : j < m) : ig (List.replicate m v) j = v := by
  unfold ig
  rw [List.getD_eq_getElem?_getD, List.getElem?_replicate, if_pos h]
  rfl
theorem nodup_perm : ∀ (o l : List Nat), o.Nodup → (∀ x ∈ o, x ∈ l) → l.length ≤ o.length → o.Perm l
  | [], l, _, _, hl => by
    have : l = [] := List.length_eq_zero_iff.mp (by simpa using hl)
    rw [this]
  | a :: o, l, hd, hs, hl => by
    have ha := hs a (List.mem_cons_self ..)
    have hd' := List.nodup_cons.mp hd
    refine ((nodup_perm o (l.erase a) hd'.2 (fun x hx => ?_) ?_).cons a).trans (List.perm_cons_erase ha).symm
    · exact (List.mem_erase_of_ne (fun e => hd'.1 (by rw [← e]; exact hx))).mpr (hs x (List.mem_cons_of_mem _ hx))
    · rw [List.length_erase_of_mem ha]
      rw [List.length_cons] at hl
      omega
/-- both nodup with like members -/
theorem perm_of_mem {o l : List Nat} (h1 : o.Nodup) (h2 : l.Nodup) (h : ∀ x, x ∈ o ↔ x ∈ l) : o.Perm l := by
  have sub : ∀ (a b : List Nat), a.Nodup → (∀ x ∈ a, x ∈ b) → a.length ≤ b.length := by
    intro a
    induction a with
    | nil => intro b _ _; exact Nat.zero_le _
    | cons x a ih =>
      intro b hd hs
      have hd' := List.nodup_cons.mp hd
      have hx := hs x (List.mem_cons_self ..)
      have := ih (b.erase x) hd'.2 fun y hy => (List.mem_erase_of_ne (fun e => hd'.1 (by rw [← e]; exact hy))).mpr (hs y (List.mem_cons_of_mem _ hy))
      rw [List.length_erase_of_mem hx] at this
      have : 0 < b.length := List.length_pos_of_mem hx
      rw [List.length_cons]
      omega
  exact nodup_perm o l h1 (fun x hx => (h x).mp hx) (sub l o h2 fun x hx => (h x).mpr hx)
theorem sum_sub {f : Nat → Int} (hf : ∀ x, 0 ≤ f x) : ∀ (s u : List Nat), s.Nodup → (∀ x ∈ s, x ∈ u) → (s.map f).sum ≤ (u.map f).sum
  | [], u, _, _ => by
    induction u with
    | nil => exact Int.le_refl _
    | cons x u ih => rw [List.map_cons, List.sum_cons]; have := hf x; have := ih (fun x hx => nomatch hx); simp at *; omega
  | a :: s, u, hd, hs => by
    have ha := hs a (List.mem_cons_self ..)
    have hd' := List.nodup_cons.mp hd
    have ih := sum_sub hf s (u.erase a) hd'.2 fun x hx => (List.mem_erase_of_ne (fun e => hd'.1 (by rw [← e]; exact hx))).mpr (hs x (List.mem_cons_of_mem _ hx))
    rw [sum_perm ((List.perm_cons_erase ha).map f), List.map_cons, List.map_cons, List.sum_cons, List.sum_cons]
    omega
theorem sum_ge {T : Type} {f : T → Int} : ∀ {l : List T} {x : T}, x ∈ l → (∀ y ∈ l, 0 ≤ f y) → f x ≤ (l.map f).sum
  | y :: l, x, hx, hf => by
    have hnn : ∀ (l : List T), (∀ y ∈ l, 0 ≤ f y) → 0 ≤ (l.map f).sum := by
      intro l
      induction l with
      | nil => intro _; exact Int.le_refl _
      | cons z l ih => intro h; rw [List.map_cons, List.sum_cons]; have := h z (List.mem_cons_self ..); have := ih fun y hy => h y (List.mem_cons_of_mem _ hy); omega
    rw [List.map_cons, List.sum_cons]
    rcases List.mem_cons.mp hx with rfl | hx
    · have := hnn l fun y hy => hf y (List.mem_cons_of_mem _ hy)
      omega
    · have := sum_ge hx fun y hy => hf y (List.mem_cons_of_mem _ hy)
      have := hf y (List.mem_cons_self ..)
      omega
theorem sum_le_sum {T : Type} {f g : T → Int} : ∀ {l : List T}, (∀ x ∈ l, f x ≤ g x) → (l.map f).sum ≤ (l.map g).sum
  | [], _ => Int.le_refl _
  | x :: l, h => by
    rw [List.map_cons, List.map_cons, List.sum_cons, List.sum_cons]
    have := h x (List.mem_cons_self ..)
    have := sum_le_sum fun y hy => h y (List.mem_cons_of_mem _ hy)
    omega
/-- the sum of F over the jobs of an order that starts at h -/
def cst (t : List Int) (F : Nat → Int → Int) : Int → List Nat → Int
  | _, [] => 0
  | h, j :: o => F j (h + ig t j) + cst t F (h + ig t j) o
def tt (t : List Int) (o : List Nat) : Int := (o.map (ig t)).sum
section
variable {t : List Int} {F : Nat → Int → Int}
theorem tt_cons (j : Nat) (o : List Nat) : tt t (j :: o) = ig t j + tt t o := by
  unfold tt; rw [List.map_cons, List.sum_cons]
theorem tt_app (p x : List Nat) : tt t (p ++ x) = tt t p + tt t x := by
  unfold tt; rw [List.map_append, List.sum_append]
theorem cst_app : ∀ (p x : List Nat) (h : Int), cst t F h (p ++ x) = cst t F h p + cst t F (h + tt t p) x
  | [], x, h => by show cst t F h x = 0 + cst t F (h + 0) x; rw [Int.zero_add, Int.add_zero]
  | j :: p, x, h => by
    show F j (h + ig t j) + cst t F (h + ig t j) (p ++ x) = F j (h + ig t j) + cst t F (h + ig t j) p + cst t F (h + tt t (j :: p)) x
    rw [cst_app p x, tt_cons, ← Int.add_assoc, ← Int.add_assoc]
theorem cst_mono (hF : ∀ j a b, a ≤ b → F j a ≤ F j b) : ∀ (o : List Nat) (h h' : Int), h ≤ h' → cst t F h o ≤ cst t F h' o
  | [], _, _, _ => Int.le_refl _
  | j :: o, h, h', hh => by
    have h1 := hF j (h + ig t j) (h' + ig t j) (by omega)
    have h2 := cst_mono hF o (h + ig t j) (h' + ig t j) (by omega)
    simp only [cst]
    omega
theorem endS_len (s : List Int × Int) (j : Nat) : (endS t s j).1.length = s.1.length := List.length_set ..
theorem end_out : ∀ (o : List Nat) (s : List Int × Int) (j : Nat), (∀ i ∈ o, i < s.1.length) → j ∉ o → ig (o.foldl (endS t) s).1 j = ig s.1 j
  | [], _, _, _, _ => rfl
  | i :: o, s, j, hl, hj => by
    rw [List.foldl_cons, end_out o _ j (fun k hk => by rw [endS_len]; exact hl k (List.mem_cons_of_mem _ hk)) (fun z => hj (List.mem_cons_of_mem _ z))]
    show ig (s.1.set i _) j = _
    rw [ig_set (hl i (List.mem_cons_self ..)), if_neg (fun e => hj (by rw [e]; exact List.mem_cons_self ..))]
theorem end_cst : ∀ (o : List Nat) (s : List Int × Int), o.Nodup → (∀ j ∈ o, j < s.1.length) → (o.map fun j => F j (ig (o.foldl (endS t) s).1 j)).sum = cst t F s.2 o
  | [], _, _, _ => rfl
  | i :: o, s, hd, hl => by
    have hd' := List.nodup_cons.mp hd
    have hl' : ∀ j ∈ o, j < (endS t s i).1.length := fun j hj => by rw [endS_len]; exact hl j (List.mem_cons_of_mem _ hj)
    have ih := end_cst o (endS t s i) hd'.2 hl'
    rw [List.map_cons, List.sum_cons, List.foldl_cons, ih, end_out o _ i hl' hd'.1]
    show F i (ig (s.1.set i (s.2 + ig t i)) i) + _ = _
    rw [ig_set (hl i (List.mem_cons_self ..)), if_pos rfl]
    rfl
/-- an order of m jobs -/
abbrev Ord (m : Nat) (o : List Nat) : Prop := o.Perm (List.range m)
theorem Ord.len {m : Nat} {o : List Nat} (h : Ord m o) : o.length = m := by have := h.length_eq; rwa [List.length_range] at this
theorem Ord.nd {m : Nat} {o : List Nat} (h : Ord m o) : o.Nodup := h.nodup_iff.mpr List.nodup_range
theorem Ord.lt {m : Nat} {o : List Nat} (h : Ord m o) {j : Nat} (hj : j ∈ o) : j < m := List.mem_range.mp (h.mem_iff.mp hj)
theorem Ord.mem {m : Nat} {o : List Nat} (h : Ord m o) {j : Nat} (hj : j < m) : j ∈ o := h.mem_iff.mpr (List.mem_range.mpr hj)
theorem ords_ord {m : Nat} {o : List Nat} (h : o ∈ ords m m) : Ord m o := by
  obtain ⟨h1, h2, h3⟩ := ords_mem h
  exact nodup_perm o _ h2 (fun k hk => List.mem_range.mpr (h3 k hk)) (by rw [List.length_range, h1]; exact Nat.le_refl _)
theorem Ord.ords {m : Nat} {o : List Nat} (h : Ord m o) : o ∈ ords m m := ords_all h.len h.nd fun k hk => h.lt hk
theorem ords_ne (n : Nat) : ords n n ≠ [] := fun z => by
  have h : List.range n ∈ DM.ords n n := Ord.ords (List.Perm.refl _)
  rw [z] at h
  exact nomatch h
theorem sum_cst {m : Nat} {o : List Nat} (hm : t.length = m) (ho : Ord m o) : ((List.range m).map fun j => F j (ig (ends t o) j)).sum = cst t F 0 o := by
  rw [← sum_perm (ho.map _)]
  exact end_cst o (List.replicate t.length 0, 0) ho.nd fun j hj => by rw [List.length_replicate, hm]; exact ho.lt hj
theorem end_snd : ∀ (o : List Nat) (s : List Int × Int), (o.foldl (endS t) s).2 = s.2 + tt t o
  | [], s => by show s.2 = s.2 + 0; rw [Int.add_zero]
  | i :: o, s => by
    rw [List.foldl_cons, end_snd o, tt_cons, ← Int.add_assoc]
    rfl
/-- the end of a job -/
theorem end_at {m : Nat} {u v : List Nat} {j : Nat} (hm : t.length = m) (ho : Ord m (u ++ j :: v)) : ig (ends t (u ++ j :: v)) j = tt t u + ig t j := by
  have hd := ho.nd
  have hj : j ∉ v := by
    have := (List.nodup_append.mp hd).2.1
    exact (List.nodup_cons.mp this).1
  have hlt : ∀ i ∈ u ++ j :: v, i < t.length := fun i hi => by rw [hm]; exact ho.lt hi
  have hfl : (u.foldl (endS t) (List.replicate t.length 0, 0)).1.length = t.length := endF_len t u
  show ig ((u ++ j :: v).foldl (endS t) (List.replicate t.length 0, 0)).1 j = _
  rw [List.foldl_append, List.foldl_cons, end_out v _ j (fun i hi => by rw [endS_len, hfl]; exact hlt i (by simp [hi])) hj]
  show ig (List.set _ j (_ + ig t j)) j = _
  rw [ig_set (by rw [hfl]; exact hlt j (by simp)), if_pos rfl, end_snd, Int.zero_add]
end
end DM
set_option Elab.async false
set_option linter.all false
set_option maxRecDepth 100000
set_option maxHeartbeats 1000000
/-! DMK: places in orders, pairs kept. -/
namespace DM
open PySem
theorem pos_cons (x : Nat) (o : List Nat) (a : Nat) : pos (x :: o) a = if x = a then 0 else pos o a + 1 := by
  unfold pos
  rw [List.findIdx_cons]
  by_cases h : x = a
  · subst h; simp
  · rw [if_neg h, beq_eq_false_iff_ne.mpr h]
    rfl
theorem pos_in : ∀ {u : List Nat} (v : List Nat) {a : Nat}, a ∈ u → pos (u ++ v) a < u.length
  | x :: u, v, a, h => by
    rw [List.cons_append, pos_cons]
    by_cases e : x = a
    · rw [if_pos e]; simp
    · rw [if_neg e]
      rcases List.mem_cons.mp h with z | z
      · exact absurd z.symm e
      · have := pos_in v z
        rw [List.length_cons]
        omega
theorem pos_out : ∀ {u : List Nat} (v : List Nat) {a : Nat}, a ∉ u → pos (u ++ v) a = u.length + pos v a
  | [], v, a, _ => by rw [List.nil_append, List.length_nil, Nat.zero_add]
  | x :: u, v, a, h => by
    rw [List.cons_append, pos_cons, if_neg (fun e => h (by rw [e]; exact List.mem_cons_self ..)), pos_out v fun z => h (List.mem_cons_of_mem _ z), List.length_cons]
    omega
theorem pos_mid {u v : List Nat} {a : Nat} (h : a ∉ u) : pos (u ++ a :: v) a = u.length := by
  rw [pos_out _ h, pos_cons, if_pos rfl, Nat.add_zero]
theorem nd_mid {u v : List Nat} {a : Nat} (h : (u ++ a :: v).Nodup) : a ∉ u ∧ a ∉ v := by
  have h3 := List.nodup_append.mp h
  exact ⟨fun z => h3.2.2 a z a (List.mem_cons_self ..) rfl, (List.nodup_cons.mp h3.2.1).1⟩
/-- b stands ahead of a -/
theorem pos_split {o : List Nat} {a b : Nat} (hd : o.Nodup) (ha : a ∈ o) (hb : b ∈ o) (h : pos o b < pos o a) : ∃ u q s, o = u ++ b :: (q ++ a :: s) := by
  obtain ⟨u, v, rfl⟩ := List.append_of_mem hb
  have hn := nd_mid hd
  rw [pos_mid hn.1] at h
  have hau : a ∉ u := fun z => by have := pos_in (b :: v) z; omega
  have hab : a ≠ b := fun e => by subst e; rw [pos_mid hn.1] at h; omega
  have hav : a ∈ v := by
    rcases List.mem_append.mp ha with z | z
    · exact absurd z hau
    · rcases List.mem_cons.mp z with z | z
      · exact absurd z hab
      · exact z
  obtain ⟨q, s, rfl⟩ := List.append_of_mem hav
  exact ⟨u, q, s, rfl⟩
/-- each job stands behind those that are to be done before -/
def okr (ps : List (Nat × Nat)) (r : List Nat) : Prop := ∀ p ∈ ps, ∀ u v, r = u ++ p.2 :: v → p.1 ∈ u
theorem okr.nil (ps : List (Nat × Nat)) : okr ps [] := fun p _ u v e => by simp at e
theorem okr.pre {ps : List (Nat × Nat)} {r s : List Nat} (h : okr ps (r ++ s)) : okr ps r := fun p hp u v e => h p hp u (v ++ s) (by rw [e]; simp)
theorem okr.last {ps : List (Nat × Nat)} {r : List Nat} {j : Nat} (h : okr ps (r ++ [j])) : ∀ p ∈ ps, p.2 = j → p.1 ∈ r := fun p hp e => h p hp r [] (by rw [e])
theorem okr.snoc {ps : List (Nat × Nat)} {r : List Nat} {j : Nat} (h : okr ps r) (hj : ∀ p ∈ ps, p.2 = j → p.1 ∈ r) : okr ps (r ++ [j]) := fun p hp u v e => by
  rcases List.eq_nil_or_concat v with rfl | ⟨v', x, rfl⟩
  · have e2 := List.append_inj' e rfl
    rw [← e2.1]
    exact hj p hp (by have := e2.2; simp at this; exact this.symm)
  · rw [List.concat_eq_append] at e
    have e2 : r ++ [j] = (u ++ p.2 :: v') ++ [x] := by rw [e]; simp
    exact h p hp u v' (List.append_inj' e2 rfl).1
theorem kept_iff {ps : List (Nat × Nat)} {o : List Nat} (hd : o.Nodup) (hm : ∀ p ∈ ps, p.1 ∈ o ∧ p.2 ∈ o ∧ p.1 ≠ p.2) : kept ps o = true ↔ okr ps o := by
  have e : kept ps o = true ↔ ∀ p ∈ ps, ¬ pos o p.1 > pos o p.2 := by
    unfold kept
    rw [decide_eq_true_eq, List.filter_eq_nil_iff]
    exact ⟨fun h p hp => by simpa using h p hp, fun h p hp => by simpa using h p hp⟩
  rw [e]
  constructor
  · intro h p hp u v eo
    have h1 := h p hp
    obtain ⟨m1, m2, m3⟩ := hm p hp
    subst eo
    have hn := nd_mid hd
    rw [pos_mid hn.1] at h1
    apply Classical.byContradiction
    intro hu
    rw [pos_out _ hu, pos_cons, if_neg (fun z => m3 z.symm)] at h1
    omega
  · intro h p hp hlt
    obtain ⟨m1, m2, m3⟩ := hm p hp
    obtain ⟨u, v, eo⟩ := List.append_of_mem m2
    have h1 := h p hp u v eo
    subst eo
    have hn := nd_mid hd
    rw [pos_mid hn.1] at hlt
    have := pos_in (p.2 :: v) h1
    omega
end DM
set_option Elab.async false
set_option linter.all false
set_option maxRecDepth 100000
set_option maxHeartbeats 1000000
/-! DMB: bits, dicts, all(..), insert, exchanges of items; _law_pairs. -/
namespace DM
open PySem
local macro_rules
  | `(tactic| sleep 1) => `(tactic| repeat (first | with_reducible (first | refine wp_seq ?_ | refine wp_con ?_ | refine wp_evs ?_ | refine wp_evs0 ?_ | refine wp_rd_v ?_ | refine wp_rd_f ?_ | refine wp_rds ?_ | refine wp_rds0 ?_ | refine wp_kp_v ?_ | refine wp_kp_f ?_ | refine wp_keeps ?_ | refine wp_keeps0 ?_ | refine wp_bin ?_ | refine wp_idx ?_ | refine wp_blt ?_ | refine wp_cmp ?_ | refine wp_tup ?_ | refine wp_lst ?_ | refine wp_call ?_ | refine wp_and ?_ | refine wp_or ?_ | refine wp_not ?_ | refine wp_ife ?_ | refine wp_slc ?_ | refine wp_asI ?_ | refine wp_neg ?_ | refine IntOk.mk ?_ | refine Tagged.lst ?_ | refine wp_mth ?_ | refine wp_app ?_ | refine wp_tru ?_ | refine o_add ?_ | refine o_sub ?_ | refine cp_eq ?_ | refine cp_ne ?_ | refine cp_lt ?_ | refine cp_gt ?_ | refine cp_le ?_ | refine cp_ge ?_ | refine tr_b ?_ | refine wp_t ?_ | refine wp_f ?_ | refine wp_asg ?_ | refine wp_put_s ?_ | refine wp_retS ?_ | refine wp_retN ?_ | refine wp_ifS ?_ | refine wp_setI ?_ | refine wp_aug ?_ | refine wp_exp ?_ | refine wp_par ?_ | refine wp_sts ?_ | refine wp_sts0 ?_ | refine wp_st_v ?_ | refine wp_st_f ?_ | refine wp_st_s ?_ | refine wp_pa ?_ | refine wp_pa0 ?_ | refine wp_asgT ?_ | refine wp_for ?_ | refine wp_nil ?_ | refine wp_brk ?_ | refine wp_cont ?_ | refine wp_comp ?_ | refine wp_comp2 ?_ | refine wp_tst0 ?_ | refine wp_tst ?_ | refine wp_nm ?_ | refine wp_tu ?_ | refine wp_ts ?_ | refine wp_ts0 ?_ | refine wp_wkvt ?_ | refine wp_wkvl ?_ | refine wp_wkfl ?_ | refine wp_lock0 ?_ | refine wp_wke ?_ | refine g_add ?_ | refine g_sub ?_ | refine wp_bnd ?_ | refine wp_ret ?_ | refine wp_some ?_ | refine b_lenF ?_ | refine b_lenl ?_ | refine b_lent ?_ | refine b_abs ?_ | refine b_int ?_ | refine b_max ?_ | refine b_min ?_ | refine b_sum ?_ | refine b_sumT ?_ | refine b_tup ?_ | refine b_lst ?_ | refine b_lstt ?_) | ((with_reducible apply wp_var_v); exact rfl) | ((with_reducible apply wp_var_o); exact rfl) | ((with_reducible apply wp_rd_s); exact rfl) | ((with_reducible apply wp_rd_sv); exact rfl) | ((with_reducible apply wp_kp_sv); exact rfl) | ((with_reducible apply wp_wks); exact rfl) | ((with_reducible apply Tagged.tup); exact rfl) | ((with_reducible apply wp_lockL); exact rfl) | ((with_reducible apply cp_is); exact rfl) | ((with_reducible apply cp_isn); exact rfl) | ((with_reducible apply o_ixl); exact rfl) | ((with_reducible apply o_ixt); exact rfl) | ((with_reducible apply wp_tt); exact rfl) | ((with_reducible apply wp_ff); exact rfl) | ((with_reducible apply wp_tt); assumption) | ((with_reducible apply wp_ff); assumption) | ((with_reducible refine o_ixF ?_ (by assumption)); intro _) | ((with_reducible apply wp_lockF); exact rfl; (repeat (first | exact SetAt.zero | apply SetAt.succ))) | ((with_reducible apply UnLk.mk); exact rfl; (repeat (first | exact SetAt.zero | apply SetAt.succ))) | ((with_reducible apply Both.mk); (first | exact rfl | exact len60 rfl | assumption)) | ((with_reducible apply b_isaT); exact rfl; (first | exact rfl | assumption)) | ((with_reducible apply b_isaF); exact rfl; (first | exact rfl | assumption)) | ((with_reducible apply wp_appC); exact rfl; (repeat (first | exact SetAt.zero | apply SetAt.succ))) | ((with_reducible apply wp_kp_s); exact rfl; (repeat (first | exact SetAt.zero | apply SetAt.succ))) | ((with_reducible apply wp_put_v); (repeat (first | exact SetAt.zero | apply SetAt.succ)); (first | exact rfl | assumption)) | ((with_reducible apply wp_put_f); (repeat (first | exact SetAt.zero | apply SetAt.succ)); (first | exact rfl | assumption)) | ((with_reducible apply wp_putSl); (repeat (first | exact SetAt.zero | apply SetAt.succ)); (first | exact rfl | assumption)) | ((with_reducible apply wp_setAt); exact rfl; exact rfl; (repeat (first | exact SetAt.zero | apply SetAt.succ)))))
section
variable {n : En} {R : Opd → En → Prop}
theorem bools_of : ∀ bs : List Bool, bools (bs.map .bool) = some bs
  | [] => rfl
  | b :: bs => by
    show (bools (bs.map .bool)).map (b :: ·) = _
    rw [bools_of bs]
    rfl
theorem b_all {bs : List Bool} (q : R (.v (.bool (bs.all id))) n) : wp (opt (bltD .all [.list (bs.map .bool)])) n R := by
  refine wp_opt (a := .v (.bool (bs.all id))) ?_ q
  show (bools (bs.map .bool)).map _ = _
  rw [bools_of]
  rfl
theorem b_any {bs : List Bool} (q : R (.v (.bool (bs.any id))) n) : wp (opt (bltD .any [.list (bs.map .bool)])) n R := by
  refine wp_opt (a := .v (.bool (bs.any id))) ?_ q
  show (bools (bs.map .bool)).map _ = _
  rw [bools_of]
  rfl
theorem o_shr {M j : Nat} {i k : Int} (q : R (.v (.int ((M / 2 ^ j : Nat) : Int))) n) (e : i = (M : Int)) (e2 : k = (j : Int)) : wp (opt (binD .RShift (.int i) (.int k))) n R := by
  subst e e2
  refine wp_opt (a := .v (.int ((M / 2 ^ j : Nat) : Int))) ?_ q
  simp only [binD, binI, if_pos (Int.natCast_nonneg j), Int.toNat_natCast, Option.map]
  rfl
theorem o_and1 {M : Nat} (q : R (.v (.int ((M % 2 : Nat) : Int))) n) : wp (opt (binD .BitAnd (.int (M : Int)) (.int 1))) n R := by
  refine wp_opt (a := .v (.int ((M % 2 : Nat) : Int))) ?_ q
  have e : Builtin.bitAnd (M : Int) 1 = ((M % 2 : Nat) : Int) := by
    have : Builtin.bitAnd (M : Int) 1 = (((M : Int).toNat &&& (1 : Int).toNat : Nat) : Int) := by simp [Builtin.bitAnd]
    rw [this, Int.toNat_natCast]
    show ((M &&& 1 : Nat) : Int) = _
    rw [Nat.and_one_is_mod]
  simp only [binD, binI, e, Option.map]
theorem o_shl1 {j : Nat} {k : Int} (q : R (.v (.int ((2 ^ j : Nat) : Int))) n) (e : k = (j : Int)) (hj : j ≤ 1000) : wp (opt (binD .LShift (.int 1) (.int k))) n R := by
  subst e
  refine wp_opt (a := .v (.int ((2 ^ j : Nat) : Int))) ?_ q
  show (binI .LShift 1 (j : Int)).map _ = _
  simp only [binI]
  rw [if_pos ⟨by omega, by omega, by decide⟩, Int.toNat_natCast, Int.one_mul]
  show some (Opd.v (.int _)) = _
  rw [Int.natCast_pow]
  rfl
theorem o_bor {M N : Nat} (q : R (.v (.int ((M ||| N : Nat) : Int))) n) : wp (opt (binD .BitOr (.int (M : Int)) (.int (N : Int)))) n R := by
  refine wp_opt (a := .v (.int ((M ||| N : Nat) : Int))) ?_ q
  have e : Builtin.bitOr (M : Int) (N : Int) = ((M ||| N : Nat) : Int) := by
    have := Bits.bitOr_pp (Int.natCast_nonneg M) (Int.natCast_nonneg N)
    rw [Int.toNat_natCast, Int.toNat_natCast] at this
    exact this
  simp only [binD, binI, e, Option.map]
/-! dicts -/
theorem b_dict0 (q : R (.f (.dict [])) n) : wp (opt (bltD .dict0 [])) n R := wp_opt rfl q
theorem b_dict1 {k : Int} {d : PyData} (q : R (.f (.dict [(.int k, d)])) n) (h : flat d = true) : wp (opt (bltD .dict1 [.int k, d])) n R := wp_opt (by
  show (if flat d = true then _ else _) = _
  rw [if_pos h]) q
theorem b_dlist {kvs : List (PyData × PyData)} (q : R (.f (.list (kvs.map (·.1)))) n) (h : notFL kvs = true) : wp (opt (bltD .list [.dict kvs])) n R := wp_opt (by
  show (if notFL kvs = true then _ else _) = _
  rw [if_pos h]) q
theorem o_dget {kvs : List (PyData × PyData)} {k : Int} {v : PyData} {R : PyData → En → Prop} (q : R v n) (e : dget kvs k = some v) (h : notFL kvs = true) : wp (opt (idxD (.dict kvs) (.int k))) n R := by
  refine wp_opt (a := v) ?_ q
  cases kvs with
  | nil => cases e
  | cons y r =>
    obtain ⟨a, x⟩ := y
    have go : idxD (.dict ((a, x) :: r)) (.int k) = (if notFL ((a, x) :: r) = true then dget ((a, x) :: r) k else none) := by
      cases a <;> cases r <;> first
        | (cases h; done)
        | rfl
    rw [go, if_pos h]
    exact e
theorem cp_dnotin {kvs : List (PyData × PyData)} {k : Int} {R : Bool → En → Prop} (q : R (!(dget kvs k).isSome) n) (h : notFL kvs = true) : wp (opt (cmpD .NotIn (.int k) (.dict kvs))) n R := wp_opt (by
  show (if notFL kvs = true then _ else _) = _
  rw [if_pos h]) q
/-! insert, exchanges -/
theorem wp_ins {o : Opd} {os : List Opd} (h : wp (keeps os) n fun ds n1 => wp (match ds with | [.int k, d] => change o (insF k d) | _ => no) n1 R) : wp (mthM .insert .lst o os) n R := wp_bnd h
theorem wp_insC {i : Nat} {p : Bool} {xs : List PyData} {d : PyData} {k : Nat} {z : Int} {n2 : En} (h : n[i]? = some (.own false p (.list xs))) (s : SetAt n i (.own false p (.list (xs.take k ++ [d] ++ xs.drop k))) n2) (q : R (.v .none) n2) (e : z = (k : Int)) (hl : xs.length < sizeLine) (hk : k < 2 ^ 62) : wp (change (.s i) (insF z d)) n R :=
  wp_change h (r := .none) (by
    subst e
    unfold insF
    rw [if_pos ⟨hl, by omega, by omega⟩, Int.toNat_natCast]) s q
theorem wp_swp {cf : Cf} {a i b j es : Ex} {Q : Flow → En → Prop} (h : wp (evs cf es) n fun os n1 => wp (keeps os) n1 fun ds n2 => wp (match ds with
    | [d, g] => bnd (ev cf a) fun x => bnd (ev cf i) fun y => bnd (rd y) fun k => bnd (setAt x k d) fun _ =>
        bnd (ev cf b) fun x => bnd (ev cf j) fun y => bnd (rd y) fun k => bnd (setAt x k g) fun _ => ret .next
    | _ => no) n2 Q) : wp (exec cf (.swp a i b j es)) n Q := by
  simp only [exec]
  exact wp_bnd (wp_mono h fun _ _ h => wp_bnd (wp_mono h fun _ _ h => h))
end
/-! ### _law_pairs -/
@[reducible] def eN (k : Nat) : PyData := .int (k : Int)
theorem pos_get {o : List Nat} (hd : o.Nodup) {i : Nat} (hi : i < o.length) : pos o (o.getD i 0) = i := by
  have e : o = o.take i ++ o[i] :: o.drop (i + 1) := by rw [← List.drop_eq_getElem_cons hi, List.take_append_drop]
  have e2 : o.getD i 0 = o[i] := by rw [List.getD_eq_getElem?_getD, List.getElem?_eq_getElem hi]; rfl
  rw [e2]
  have hd2 := hd
  rw [e] at hd2
  have := pos_mid (v := o.drop (i + 1)) (nd_mid hd2).1
  rw [← e, List.length_take] at this
  omega
theorem swap_perm {o : List Nat} {i j : Nat} (hi : i < o.length) (hj : j < o.length) : ((o.set i (o.getD j 0)).set j (o.getD i 0)).Perm o := by
  have e1 : o.getD j 0 = o[j] := by rw [List.getD_eq_getElem?_getD, List.getElem?_eq_getElem hj]; rfl
  have e2 : o.getD i 0 = o[i] := by rw [List.getD_eq_getElem?_getD, List.getElem?_eq_getElem hi]; rfl
  rw [e1, e2]
  exact List.set_set_perm hi hj
theorem getD_mem {o : List Nat} {i : Nat} (hi : i < o.length) : o.getD i 0 ∈ o := by
  rw [List.getD_eq_getElem?_getD, List.getElem?_eq_getElem hi]
  exact List.getElem_mem hi
theorem sort_eN2 (ts : List (Nat × Nat)) : (allAlike (ts.map eN2) && sortable (ts.map eN2) && (ts.map eN2).all dok) = true := by
  have e : ts.map eN2 = (ts.map fun p => ((p.1 : Int), p.2)).map eP := by rw [List.map_map]; rfl
  rw [e]
  exact sort_eP _
@[reducible] def fPairs (pk : Nat) : Fn := ⟨[true, false], 8, (.seq (.asg 2 (.blt .listr (.cons (.con (.int 0)) (.cons (.var 1) .nil)))) (.seq (.forr (.nm 3) .range1 (.cons (.var 1) .nil) (.seq (.asg 4 (.bin .Add (.var 3) (.call pk [true, false] (.cons (.var 0) (.cons (.bin .Sub (.var 1) (.var 3)) .nil))))) (.seq (.swp (.var 2) (.var 3) (.var 2) (.var 4) (.cons (.idx (.var 2) (.var 4)) (.cons (.idx (.var 2) (.var 3)) .nil))) .nil))) (.seq (.asg 5 (.lst .nil)) (.seq (.forr (.nm 6) .range1 (.cons (.var 1) .nil) (.seq (.asg 5 (.bin .Add (.var 5) (.comp [7, 4] (.nm 4) .range2 (.cons (.bin .Add (.var 6) (.con (.int 1))) (.cons (.var 1) .nil)) (.cons (.cmp .Eq (.call pk [true, false] (.cons (.var 0) (.cons (.con (.int 4)) .nil))) (.con (.int 0))) .nil) (.tup (.cons (.idx (.var 2) (.var 6)) (.cons (.idx (.var 2) (.var 4)) .nil)))))) .nil)) (.seq (.ret (.blt .tuple (.cons (.blt .sorted (.cons (.var 5) .nil)) .nil))) .nil)))))⟩
def Ahead (o : List Nat) (ps : List (Nat × Nat)) : Prop := ∀ p ∈ ps, p.1 ∈ o ∧ p.2 ∈ o ∧ pos o p.1 < pos o p.2
theorem r_pairs {p : List Fn} {i pk k m : Nat} {ns : List Int} {s : PyData} (hp : p[i]? = some (fPairs pk)) (hq : p[pk]? = some fPick) (hs : StOk ns s) (hm : m ≤ 20) :
    ∃ s' ps o, run p (k + 2) i [.own false true s, .val (.int (m : Int))] = .ok false (tP ps) [.own false true s', .emp] ∧ StOk ns s' ∧ ps.length ≤ 400 ∧ Ord m o ∧ Ahead o ps := by
  have go : ∃ fr d fin, run p (k + 2) i [.own false true s, .val (.int (m : Int))] = .ok fr d fin ∧ ∃ s' ps o, fr = false ∧ d = tP ps ∧ fin = [.own false true s', .emp] ∧ StOk ns s' ∧ ps.length ≤ 400 ∧ Ord m o ∧ Ahead o ps := by
    refine run_ex (n0 := [_, _, _, _, _, _, _, _]) hp rfl (Nat.le_of_ble_eq_true rfl) rfl ?_
    sleep 1
    refine b_listr ?_ (by omega)
    sleep 1
    refine wp_r1 (b := m) ?_ rfl (by omega)
    sleep 1
    refine wp_forN (fun k n' => ∃ s' o a b, n' = [.own false true s', .val (.int (m : Int)), .own false false (.list (o.map eN)), a, b, .emp, .emp, .emp] ∧ StOk ns s' ∧ Ord m o ∧ FS a ∧ FS b) ⟨s, List.range m, _, _, rfl, hs, List.Perm.refl _, FS.emp, FS.emp⟩ ?_ ?_
    · rintro z n' hz ⟨s1, o, a, b, rfl, hs1, ho, fa, fb⟩
      have oa := fa.op
      have ob := fb.op
      have hol := ho.len
      sleep 1
      obtain ⟨s2, v, hr, hs2, v0, v1⟩ := r_pick (k := k) hq hs1 (l := (m : Int) - (z : Int)) (by omega) (by omega)
      refine wp_callV rfl rfl rfl rfl ?_ (hr)
      obtain ⟨u, rfl⟩ := Int.eq_ofNat_of_zero_le v0
      have e0 : (z : Int) + (u : Int) = ((z + u : Nat) : Int) := by omega
      sleep 1
      rw [e0]
      refine wp_swp ?_
      sleep 1
      refine wp_opt (at_map (enc := eN) (d := 0) (k := z + u) (by omega)) ?_
      sleep 1
      refine wp_opt (at_map (enc := eN) (d := 0) (k := z) (by omega)) ?_
      sleep 1
      refine wp_setZ (enc := eN) rfl (by repeat (first | exact SetAt.zero | apply SetAt.succ)) ?_ (by omega)
      sleep 1
      refine wp_setZ (enc := eN) rfl (by repeat (first | exact SetAt.zero | apply SetAt.succ)) ?_ (by rw [List.length_set]; omega)
      sleep 1
      exact ⟨s2, _, _, _, rfl, hs2, (swap_perm (by omega) (by omega)).trans ho, FS.val, FS.val⟩
    · rintro n' ⟨s1, o, a, b, rfl, hs1, ho, fa, fb⟩
      have oa := fa.op
      have ob := fb.op
      have hol := ho.len
      sleep 1
      refine wp_r1 (b := m) ?_ rfl (by omega)
      sleep 1
      refine wp_forN (fun k n' => ∃ s' ps c, n' = [.own false true s', .val (.int (m : Int)), .own false false (.list (o.map eN)), a, b, .own false false (.list (ps.map eN2)), c, .emp] ∧ StOk ns s' ∧ ps.length ≤ m * k ∧ Ahead o ps ∧ openS c = true) ⟨s1, [], _, rfl, hs1, Nat.zero_le _, (fun p hp => nomatch hp), rfl⟩ ?_ ?_
      · rintro z n' hz ⟨s2, ps, c, rfl, hs2, hpl, hps, oc⟩
        have hmz : m * z ≤ 400 := Nat.le_trans (Nat.mul_le_mul hm (Nat.le_of_lt (Nat.lt_of_lt_of_le hz hm))) (by decide)
        sleep 1
        refine wp_r2 (a := z + 1) (b := m) ?_ (by omega) rfl (by omega) (by omega)
        sleep 1
        refine wp_block (fun done acc n' => ∃ (s' : PyData) (qs : List (Nat × Nat)) (x : Sl), n' = [.own false true s', .val (.int (m : Int)), .own false false (.list (o.map eN)), a, x, .own false false (.list (ps.map eN2)), .val (.int (z : Int)), .emp] ∧ acc = qs.map eN2 ∧ StOk ns s' ∧ qs.length ≤ done.length ∧ Ahead o qs) (by rcases fb with rfl | ⟨d, rfl⟩ <;> rfl) ?_ ?_ ?_
        · exact ⟨s2, [], _, rfl, rfl, hs2, Nat.le_refl _, fun p hp => nomatch hp⟩
        · rintro done acc x rest n' e ⟨s3, qs, y, rfl, rfl, hs3, hql, hqs⟩
          have hx : x < m - (z + 1) := List.mem_range.mp (by rw [e]; simp)
          show wp _ [.own false true s3, .val (.int (m : Int)), .own false false (.list (o.map eN)), a, .emp, .own false false (.list (ps.map eN2)), .val (.int (z : Int)), .emp] _
          sleep 1
          obtain ⟨s4, v, hr, hs4, v0, v1⟩ := r_pick (k := k) hq hs3 (l := 4) (by omega) (by omega)
          refine wp_callV rfl rfl rfl rfl ?_ (hr)
          sleep 1
          refine wp_if ?_ ?_
          · intro _
            sleep 1
            refine wp_opt (at_map (enc := eN) (d := 0) (k := z) (by omega)) ?_
            sleep 1
            refine wp_opt (at_map (enc := eN) (d := 0) (k := z + 1 + x) (by omega)) ?_
            sleep 1
            refine ⟨s4, qs ++ [(o.getD z 0, o.getD (z + 1 + x) 0)], _, rfl, by rw [List.map_append]; rfl, hs4, by rw [List.length_append, List.length_append]; simp; omega, ?_⟩
            intro p hp
            rcases List.mem_append.mp hp with w | w
            · exact hqs p w
            · rw [List.mem_singleton.mp w]
              exact ⟨getD_mem (by omega), getD_mem (by omega), by rw [pos_get ho.nd (by omega), pos_get ho.nd (by omega)]; omega⟩
          · intro _
            sleep 1
            exact ⟨s4, qs, _, rfl, by rw [List.append_nil], hs4, by rw [List.length_append]; omega, hqs⟩
        · rintro acc n' ⟨s3, qs, y, rfl, rfl, hs3, hql, hqs⟩
          rw [List.length_range] at hql
          refine ⟨by rw [List.length_map, sizeLine_eq]; omega, ?_⟩
          show wp _ [.own false true s3, .val (.int (m : Int)), .own false false (.list (o.map eN)), a, b, .own false false (.list (ps.map eN2)), .val (.int (z : Int)), .emp] _
          sleep 1
          refine o_catL ?_ (by rw [sizeLine_eq]; omega)
          sleep 1
          refine ⟨s3, ps ++ qs, _, rfl, hs3, ?_, ?_, rfl⟩
          · rw [List.length_append, Nat.mul_succ]; omega
          · intro p hp
            rcases List.mem_append.mp hp with w | w
            · exact hps p w
            · exact hqs p w
      · rintro n' ⟨s2, ps, c, rfl, hs2, hpl, hps, oc⟩
        have hmm : m * m ≤ 400 := Nat.mul_le_mul hm hm
        sleep 1
        refine b_srt ?_ (sort_eN2 _)
        sleep 1
        refine ⟨_, _, _, rfl, s2, srtE eN2 ps, o, rfl, rfl, rfl, hs2, by rw [(srtE_perm eN2 ps).length_eq]; omega, ho, ?_⟩
        intro p hp
        exact hps p ((srtE_perm eN2 ps).mem_iff.mp hp)
  obtain ⟨fr, d, fin, e, s', ps, o, rfl, rfl, rfl, h⟩ := go
  exact ⟨s', ps, o, e, h⟩
end DM
set_option Elab.async false
set_option linter.all false
set_option maxRecDepth 100000
/-! GC_k05: the code of the defs. -/
namespace DM.k05
open PySem
/-- _law_start(script) -/
abbrev b0 : Sm := (.seq (.ret (.lst (.cons (.var 0) (.cons (.con (.int 0)) (.cons (.con (.int 0)) (.cons (.con (.int 7)) .nil)))))) .nil)
/-- [script] -/
@[reducible] def f0 : Fn := ⟨[false], 1, b0⟩
/-- _law_pick(state, limit) -/
abbrev b1 : Sm := (.seq (.ife (.and (.cmp .Eq (.idx (.var 0) (.con (.int 2))) (.con (.int 0))) (.cmp .Lt (.idx (.var 0) (.con (.int 1))) (.blt .len (.cons (.idx (.var 0) (.con (.int 0))) .nil)))) (.seq (.asg 2 (.blt .abs (.cons (.idx (.idx (.var 0) (.con (.int 0))) (.idx (.var 0) (.con (.int 1)))) .nil))) (.seq (.setI (.var 0) (.con (.int 1)) (.bin .Add (.idx (.var 0) (.con (.int 1))) (.con (.int 1)))) (.seq (.ife (.cmp .GtE (.var 2) (.bin .Pow (.con (.int 10)) (.con (.int 18)))) (.seq (.setI (.var 0) (.con (.int 2)) (.var 2)) .nil) (.seq (.setI (.var 0) (.con (.int 3)) (.bin .Add (.bin .Mod (.blt .int (.cons (.bin .Add (.bin .Mult (.idx (.var 0) (.con (.int 3))) (.con (.int 48271))) (.var 2)) .nil)) (.con (.int 2147483646))) (.con (.int 1)))) .nil)) .nil))) .nil) (.seq (.ife (.cmp .Gt (.idx (.var 0) (.con (.int 2))) (.con (.int 0))) (.seq (.asg 3 (.bin .Mod (.blt .int (.cons (.idx (.var 0) (.con (.int 2))) .nil)) (.var 1))) (.seq (.setI (.var 0) (.con (.int 2)) (.bin .FloorDiv (.idx (.var 0) (.con (.int 2))) (.var 1))) (.seq (.ret (.var 3)) .nil))) .nil) (.seq (.setI (.var 0) (.con (.int 3)) (.bin .Mod (.blt .int (.cons (.bin .Mult (.idx (.var 0) (.con (.int 3))) (.con (.int 48271))) .nil)) (.con (.int 2147483647)))) (.seq (.ret (.bin .Mod (.blt .int (.cons (.bin .Add (.bin .FloorDiv (.idx (.var 0) (.con (.int 3))) (.con (.int 5))) (.bin .Mod (.blt .int (.cons (.bin .Mult (.idx (.var 0) (.con (.int 3))) (.idx (.var 0) (.con (.int 3)))) .nil)) (.con (.int 2147483629)))) .nil)) (.var 1))) .nil))))
/-- [state, limit, cell, drawn] -/
@[reducible] def f1 : Fn := ⟨[true, false], 4, b1⟩
/-- _law_same(told, due) -/
abbrev b2 : Sm := (.seq (.ife (.cmp .Is (.var 1) (.con .none)) (.seq (.ret (.cmp .Is (.var 0) (.con .none))) .nil) .nil) (.seq (.ife (.blt (.isa .bool) (.cons (.var 1) .nil)) (.seq (.ret (.and (.blt (.isa .bool) (.cons (.var 0) .nil)) (.cmp .Eq (.var 0) (.var 1)))) .nil) .nil) (.seq (.ife (.blt (.isa .int) (.cons (.var 1) .nil)) (.seq (.ret (.and (.blt (.isa .int) (.cons (.var 0) .nil)) (.and (.not (.blt (.isa .bool) (.cons (.var 0) .nil))) (.cmp .Eq (.var 0) (.var 1))))) .nil) .nil) (.seq (.ife (.blt (.isa .str) (.cons (.var 1) .nil)) (.seq (.ret (.and (.blt (.isa .str) (.cons (.var 0) .nil)) (.cmp .Eq (.var 0) (.var 1)))) .nil) .nil) (.seq (.ife (.or (.and (.blt (.isa .list) (.cons (.var 1) .nil)) (.not (.blt (.isa .list) (.cons (.var 0) .nil)))) (.and (.blt (.isa .tuple) (.cons (.var 1) .nil)) (.not (.blt (.isa .tuple) (.cons (.var 0) .nil))))) (.seq (.ret (.con (.bool false))) .nil) .nil) (.seq (.ret (.and (.cmp .Eq (.blt .len (.cons (.var 0) .nil)) (.blt .len (.cons (.var 1) .nil))) (.cmp .Eq (.comp [2, 3] (.nm 3) .range1 (.cons (.blt .len (.cons (.var 1) .nil)) .nil) (.cons (.not (.call 2 [false, false] (.cons (.idx (.var 0) (.var 3)) (.cons (.idx (.var 1) (.var 3)) .nil)))) .nil) (.con (.int 1))) (.lst .nil)))) .nil))))))
/-- [told, due, .0, k] -/
@[reducible] def f2 : Fn := ⟨[false, false], 4, b2⟩
/-- _law_orders(many) -/
abbrev b3 : Sm := (.seq (.asg 1 (.lst (.cons (.tup .nil) .nil))) (.seq (.forr (.nm 2) .range1 (.cons (.var 0) .nil) (.seq (.asg 3 (.lst .nil)) (.seq (.forr (.nm 4) .plain (.cons (.var 1) .nil) (.seq (.asg 3 (.bin .Add (.var 3) (.comp [5, 6] (.nm 6) .range1 (.cons (.var 0) .nil) (.cons (.cmp .NotIn (.var 6) (.var 4)) .nil) (.bin .Add (.var 4) (.tup (.cons (.var 6) .nil)))))) .nil)) (.seq (.asg 1 (.var 3)) .nil)))) (.seq (.ret (.var 1)) .nil)))
/-- [many, found, turn, longer, row, .0, k] -/
@[reducible] def f3 : Fn := ⟨[false], 7, b3⟩
/-- _law_ends(times, order) -/
abbrev b4 : Sm := (.seq (.asg 2 (.bin .Mult (.lst (.cons (.con (.int 0)) .nil)) (.blt .len (.cons (.var 0) .nil)))) (.seq (.asg 3 (.con (.int 0))) (.seq (.forr (.nm 4) .plain (.cons (.var 1) .nil) (.seq (.asg 3 (.bin .Add (.var 3) (.idx (.var 0) (.var 4)))) (.seq (.setI (.var 2) (.var 4) (.var 3)) .nil))) (.seq (.ret (.blt .tuple (.cons (.var 2) .nil))) .nil))))
/-- [times, order, found, here, job] -/
@[reducible] def f4 : Fn := ⟨[false, false], 5, b4⟩
/-- _law_kept(order, pairs) -/
abbrev b5 : Sm := (.seq (.ret (.cmp .Eq (.comp [2, 3, 4] (.tu (.cons (.nm 3) (.cons (.nm 4) .nil))) .plain (.cons (.var 1) .nil) (.cons (.cmp .Gt (.mth .index (.var 0) (.cons (.var 3) .nil)) (.mth .index (.var 0) (.cons (.var 4) .nil))) .nil) (.con (.int 1))) (.lst .nil))) .nil)
/-- [order, pairs, .0, a, b] -/
@[reducible] def f5 : Fn := ⟨[false, false], 5, b5⟩
/-- _law_row(state, many, least, most) -/
abbrev b6 : Sm := (.seq (.ret (.blt .tuple (.cons (.comp [4, 5] (.nm 5) .range1 (.cons (.var 1) .nil) .nil (.bin .Add (.var 2) (.call 1 [true, false] (.cons (.var 0) (.cons (.bin .Add (.bin .Sub (.var 3) (.var 2)) (.con (.int 1))) .nil))))) .nil))) .nil)
/-- [state, many, least, most, .0, k] -/
@[reducible] def f6 : Fn := ⟨[true, false, false, false], 6, b6⟩
/-- _law_pairs(state, many) -/
abbrev b7 : Sm := (.seq (.asg 2 (.blt .listr (.cons (.con (.int 0)) (.cons (.var 1) .nil)))) (.seq (.forr (.nm 3) .range1 (.cons (.var 1) .nil) (.seq (.asg 4 (.bin .Add (.var 3) (.call 1 [true, false] (.cons (.var 0) (.cons (.bin .Sub (.var 1) (.var 3)) .nil))))) (.seq (.swp (.var 2) (.var 3) (.var 2) (.var 4) (.cons (.idx (.var 2) (.var 4)) (.cons (.idx (.var 2) (.var 3)) .nil))) .nil))) (.seq (.asg 5 (.lst .nil)) (.seq (.forr (.nm 6) .range1 (.cons (.var 1) .nil) (.seq (.asg 5 (.bin .Add (.var 5) (.comp [7, 4] (.nm 4) .range2 (.cons (.bin .Add (.var 6) (.con (.int 1))) (.cons (.var 1) .nil)) (.cons (.cmp .Eq (.call 1 [true, false] (.cons (.var 0) (.cons (.con (.int 4)) .nil))) (.con (.int 0))) .nil) (.tup (.cons (.idx (.var 2) (.var 6)) (.cons (.idx (.var 2) (.var 4)) .nil)))))) .nil)) (.seq (.ret (.blt .tuple (.cons (.blt .sorted (.cons (.var 5) .nil)) .nil))) .nil)))))
/-- [state, many, order, k, j, found, i, .0] -/
@[reducible] def f7 : Fn := ⟨[true, false], 8, b7⟩
/-- ends_in(times, order) -/
abbrev b8 : Sm := (.seq (.par [2, 3] (.cons (.bin .Mult (.lst (.cons (.con (.int 0)) .nil)) (.blt .len (.cons (.var 0) .nil))) (.cons (.con (.int 0)) .nil))) (.seq (.forr (.nm 4) .plain (.cons (.var 1) .nil) (.seq (.aug .Add 3 (.idx (.var 0) (.var 4))) (.seq (.setI (.var 2) (.var 4) (.var 3)) .nil))) (.seq (.ret (.blt .tuple (.cons (.var 2) .nil))) .nil)))
/-- [times, order, found, here, job] -/
@[reducible] def f8 : Fn := ⟨[false, false], 5, b8⟩
/-- by_dues(dues) -/
abbrev b9 : Sm := (.seq (.ret (.blt .tuple (.cons (.comp [1, 2, 3] (.tu (.cons (.nm 2) (.cons (.nm 3) .nil))) .plain (.cons (.blt .sorted (.cons (.comp [1, 3] (.nm 3) .range1 (.cons (.blt .len (.cons (.var 0) .nil)) .nil) .nil (.tup (.cons (.idx (.var 0) (.var 3)) (.cons (.var 3) .nil)))) .nil)) .nil) .nil (.var 3)) .nil))) .nil)
/-- [dues, .0, due, job] -/
@[reducible] def f9 : Fn := ⟨[false], 4, b9⟩
/-- tardiness(times, weights, dues, order) -/
abbrev b10 : Sm := (.seq (.asg 4 (.call 8 [false, false] (.cons (.var 0) (.cons (.var 3) .nil)))) (.seq (.ret (.blt .sum (.cons (.comp [5, 6] (.nm 6) .range1 (.cons (.blt .len (.cons (.var 0) .nil)) .nil) .nil (.bin .Mult (.idx (.var 1) (.var 6)) (.blt .max (.cons (.con (.int 0)) (.cons (.bin .Sub (.idx (.var 4) (.var 6)) (.idx (.var 2) (.var 6))) .nil))))) .nil))) .nil))
/-- [times, weights, dues, order, ends, .0, job] -/
@[reducible] def f10 : Fn := ⟨[false, false, false, false], 7, b10⟩
/-- least_tardy(times, weights, dues) -/
abbrev b11 : Sm := (.seq (.ret (.call 12 [false, false, false, false] (.cons (.var 0) (.cons (.var 1) (.cons (.var 2) (.cons (.tup .nil) .nil)))))) .nil)
/-- [times, weights, dues] -/
@[reducible] def f11 : Fn := ⟨[false, false, false], 3, b11⟩
/-- least_tardy_kept(times, weights, dues, pairs) -/
abbrev b12 : Sm := (.seq (.asg 4 (.blt .len (.cons (.var 0) .nil))) (.seq (.asg 5 (.blt .dict1 (.cons (.con (.int 0)) (.cons (.tup (.cons (.con (.int 0)) (.cons (.tup .nil) .nil))) .nil)))) (.seq (.forr (.nm 6) .range1 (.cons (.var 4) .nil) (.seq (.asg 7 (.blt .dict0 .nil)) (.seq (.forr (.nm 8) .plain (.cons (.blt .sorted (.cons (.blt .list (.cons (.var 5) .nil)) .nil)) .nil) (.seq (.asgT (.tu (.cons (.nm 9) (.cons (.nm 10) .nil))) (.idx (.var 5) (.var 8))) (.seq (.forr (.nm 11) .range1 (.cons (.var 4) .nil) (.seq (.ife (.and (.cmp .Eq (.bin .BitAnd (.bin .RShift (.var 8) (.var 11)) (.con (.int 1))) (.con (.int 0))) (.blt .all (.cons (.comp [15, 16, 17] (.tu (.cons (.nm 16) (.cons (.nm 17) .nil))) .plain (.cons (.var 3) .nil) (.cons (.cmp .Eq (.var 17) (.var 11)) .nil) (.cmp .Eq (.bin .BitAnd (.bin .RShift (.var 8) (.var 16)) (.con (.int 1))) (.con (.int 1)))) .nil))) (.seq (.asg 12 (.bin .BitOr (.var 8) (.bin .LShift (.con (.int 1)) (.var 11)))) (.seq (.asg 13 (.blt .sum (.cons (.comp [15, 18] (.nm 18) .range1 (.cons (.var 4) .nil) (.cons (.cmp .Eq (.bin .BitAnd (.bin .RShift (.var 12) (.var 18)) (.con (.int 1))) (.con (.int 1))) .nil) (.idx (.var 0) (.var 18))) .nil))) (.seq (.asg 14 (.tup (.cons (.bin .Add (.var 9) (.bin .Mult (.idx (.var 1) (.var 11)) (.blt .max (.cons (.con (.int 0)) (.cons (.bin .Sub (.var 13) (.idx (.var 2) (.var 11))) .nil))))) (.cons (.bin .Add (.var 10) (.tup (.cons (.var 11) .nil))) .nil)))) (.seq (.ife (.or (.cmp .NotIn (.var 12) (.var 7)) (.cmp .Lt (.var 14) (.idx (.var 7) (.var 12)))) (.seq (.setI (.var 7) (.var 12) (.var 14)) .nil) .nil) .nil)))) .nil) .nil)) .nil))) (.seq (.asg 5 (.var 7)) .nil)))) (.seq (.ret (.idx (.var 5) (.bin .Sub (.bin .LShift (.con (.int 1)) (.var 4)) (.con (.int 1))))) .nil))))
/-- [times, weights, dues, pairs, many, level, turn, later, mask, lost, row, job, key, end, here, .0, a, b, one] -/
@[reducible] def f12 : Fn := ⟨[false, false, false, false], 19, b12⟩
/-- sure_pairs(times, weights, dues) -/
abbrev b13 : Sm := (.seq (.asg 3 (.lst .nil)) (.seq (.forr (.nm 4) .range1 (.cons (.blt .len (.cons (.var 0) .nil)) .nil) (.seq (.forr (.nm 5) .range1 (.cons (.blt .len (.cons (.var 0) .nil)) .nil) (.seq (.ife (.and (.cmp .NotEq (.var 4) (.var 5)) (.and (.cmp .LtE (.idx (.var 0) (.var 4)) (.idx (.var 0) (.var 5))) (.and (.cmp .GtE (.idx (.var 1) (.var 4)) (.idx (.var 1) (.var 5))) (.cmp .LtE (.idx (.var 2) (.var 4)) (.idx (.var 2) (.var 5)))))) (.seq (.asg 6 (.cmp .Eq (.tup (.cons (.idx (.var 0) (.var 4)) (.cons (.idx (.var 1) (.var 4)) (.cons (.idx (.var 2) (.var 4)) .nil)))) (.tup (.cons (.idx (.var 0) (.var 5)) (.cons (.idx (.var 1) (.var 5)) (.cons (.idx (.var 2) (.var 5)) .nil)))))) (.seq (.ife (.or (.not (.var 6)) (.cmp .Lt (.var 4) (.var 5))) (.seq (.exp (.mth .append (.var 3) (.cons (.tup (.cons (.var 4) (.cons (.var 5) .nil))) .nil))) .nil) .nil) .nil)) .nil) .nil)) .nil)) (.seq (.ret (.blt .tuple (.cons (.var 3) .nil))) .nil)))
/-- [times, weights, dues, found, a, b, alike] -/
@[reducible] def f13 : Fn := ⟨[false, false, false], 7, b13⟩
/-- is_one_late(times, dues) -/
abbrev b14 : Sm := (.seq (.asg 2 (.call 8 [false, false] (.cons (.var 0) (.cons (.call 9 [false] (.cons (.var 1) .nil)) .nil)))) (.seq (.ret (.cmp .Lt (.blt .len (.cons (.comp [3, 4] (.nm 4) .range1 (.cons (.blt .len (.cons (.var 0) .nil)) .nil) (.cons (.cmp .Gt (.idx (.var 2) (.var 4)) (.idx (.var 1) (.var 4))) .nil) (.var 4)) .nil)) (.con (.int 2)))) .nil))
/-- [times, dues, ends, .0, job] -/
@[reducible] def f14 : Fn := ⟨[false, false], 5, b14⟩
/-- all_late_bound(times, weights, dues) -/
abbrev b15 : Sm := (.seq (.asg 3 (.blt .len (.cons (.var 0) .nil))) (.seq (.asg 5 (.blt .sorted (.cons (.comp [9, 4] (.nm 4) .range1 (.cons (.var 3) .nil) .nil (.var 4)) .nil))) (.seq (.asg 6 (.lst .nil)) (.seq (.forr (.nm 4) .plain (.cons (.var 5) .nil) (.seq (.asg 7 (.blt .len (.cons (.var 6) .nil))) (.seq (.whl (.and (.cmp .Gt (.var 7) (.con (.int 0))) (.cmp .Gt (.bin .Mult (.idx (.var 1) (.var 4)) (.idx (.var 0) (.idx (.var 6) (.bin .Sub (.var 7) (.con (.int 1)))))) (.bin .Mult (.idx (.var 1) (.idx (.var 6) (.bin .Sub (.var 7) (.con (.int 1))))) (.idx (.var 0) (.var 4))))) (.seq (.aug .Sub 7 (.con (.int 1))) .nil)) (.seq (.exp (.mth .insert (.var 6) (.cons (.var 7) (.cons (.var 4) .nil)))) .nil)))) (.seq (.asg 8 (.call 8 [false, false] (.cons (.var 0) (.cons (.blt .tuple (.cons (.var 6) .nil)) .nil)))) (.seq (.ret (.blt .sum (.cons (.comp [9, 4] (.nm 4) .range1 (.cons (.var 3) .nil) .nil (.bin .Mult (.idx (.var 1) (.var 4)) (.bin .Sub (.idx (.var 8) (.var 4)) (.idx (.var 2) (.var 4))))) .nil))) .nil))))))
/-- [times, weights, dues, many, job, row, best, at, ends, .0] -/
@[reducible] def f15 : Fn := ⟨[false, false, false], 10, b15⟩
/-- better_neighbours(times, weights, dues, order) -/
abbrev b16 : Sm := (.seq (.asg 4 (.call 10 [false, false, false, false] (.cons (.var 0) (.cons (.var 1) (.cons (.var 2) (.cons (.var 3) .nil)))))) (.seq (.forr (.nm 5) .range1 (.cons (.bin .Sub (.blt .len (.cons (.var 3) .nil)) (.con (.int 1))) .nil) (.seq (.asg 6 (.bin .Add (.bin .Add (.slc (.var 3) .nil (.var 5)) (.tup (.cons (.idx (.var 3) (.bin .Add (.var 5) (.con (.int 1)))) (.cons (.idx (.var 3) (.var 5)) .nil)))) (.slc (.var 3) (.bin .Add (.var 5) (.con (.int 2))) .nil))) (.seq (.ife (.cmp .Lt (.call 10 [false, false, false, false] (.cons (.var 0) (.cons (.var 1) (.cons (.var 2) (.cons (.var 6) .nil))))) (.var 4)) (.seq (.ret (.var 6)) .nil) .nil) .nil))) (.seq (.ret (.con .none)) .nil)))
/-- [times, weights, dues, order, here, k, there] -/
@[reducible] def f16 : Fn := ⟨[false, false, false, false], 7, b16⟩
/-- best_by_neighbours(times, weights, dues, order) -/
abbrev b17 : Sm := (.seq (.whl (.con (.bool true)) (.seq (.asg 4 (.call 16 [false, false, false, false] (.cons (.var 0) (.cons (.var 1) (.cons (.var 2) (.cons (.var 3) .nil)))))) (.seq (.ife (.cmp .Is (.var 4) (.con .none)) (.seq (.ret (.var 3)) .nil) .nil) (.seq (.asg 3 (.var 4)) .nil)))) .nil)
/-- [times, weights, dues, order, there] -/
@[reducible] def f17 : Fn := ⟨[false, false, false, false], 5, b17⟩
/-- _law_sum(times, weights, dues, order) -/
abbrev b18 : Sm := (.seq (.asg 4 (.call 4 [false, false] (.cons (.var 0) (.cons (.var 3) .nil)))) (.seq (.ret (.blt .sum (.cons (.comp [5, 6] (.nm 6) .range1 (.cons (.blt .len (.cons (.var 0) .nil)) .nil) .nil (.bin .Mult (.idx (.var 1) (.var 6)) (.blt .max (.cons (.con (.int 0)) (.cons (.bin .Sub (.idx (.var 4) (.var 6)) (.idx (.var 2) (.var 6))) .nil))))) .nil))) .nil))
/-- [times, weights, dues, order, ends, .0, k] -/
@[reducible] def f18 : Fn := ⟨[false, false, false, false], 7, b18⟩
/-- law(script) -/
abbrev b19 : Sm := (.seq (.asg 1 (.call 0 [false] (.cons (.var 0) .nil))) (.seq (.asg 2 (.call 1 [true, false] (.cons (.var 1) (.cons (.con (.int 7)) .nil)))) (.seq (.asg 3 (.call 6 [true, false, false, false] (.cons (.var 1) (.cons (.var 2) (.cons (.con (.int 1)) (.cons (.con (.int 6)) .nil)))))) (.seq (.asg 4 (.call 6 [true, false, false, false] (.cons (.var 1) (.cons (.var 2) (.cons (.con (.int 0)) (.cons (.con (.int 4)) .nil)))))) (.seq (.asg 5 (.call 6 [true, false, false, false] (.cons (.var 1) (.cons (.var 2) (.cons (.con (.int 0)) (.cons (.con (.int 16)) .nil)))))) (.seq (.asg 6 (.call 3 [false] (.cons (.var 2) .nil))) (.seq (.asg 8 (.comp [23, 7] (.nm 7) .plain (.cons (.var 6) .nil) .nil (.tup (.cons (.call 18 [false, false, false, false] (.cons (.var 3) (.cons (.var 4) (.cons (.var 5) (.cons (.var 7) .nil))))) (.cons (.var 7) .nil))))) (.seq (.asg 7 (.idx (.var 6) (.call 1 [true, false] (.cons (.var 1) (.cons (.blt .len (.cons (.var 6) .nil)) .nil))))) (.seq (.ife (.or (.not (.call 2 [false, false] (.cons (.call 10 [false, false, false, false] (.cons (.var 3) (.cons (.var 4) (.cons (.var 5) (.cons (.var 7) .nil))))) (.cons (.call 18 [false, false, false, false] (.cons (.var 3) (.cons (.var 4) (.cons (.var 5) (.cons (.var 7) .nil))))) .nil)))) (.not (.call 2 [false, false] (.cons (.call 11 [false, false, false] (.cons (.var 3) (.cons (.var 4) (.cons (.var 5) .nil)))) (.cons (.blt .min (.cons (.var 8) .nil)) .nil))))) (.seq (.ret (.con (.bool false))) .nil) .nil) (.seq (.asg 9 (.call 7 [true, false] (.cons (.var 1) (.cons (.var 2) .nil)))) (.seq (.ife (.not (.call 2 [false, false] (.cons (.call 12 [false, false, false, false] (.cons (.var 3) (.cons (.var 4) (.cons (.var 5) (.cons (.var 9) .nil))))) (.cons (.blt .min (.cons (.comp [23, 10] (.nm 10) .plain (.cons (.var 8) .nil) (.cons (.call 5 [false, false] (.cons (.idx (.var 10) (.con (.int 1))) (.cons (.var 9) .nil))) .nil) (.var 10)) .nil)) .nil)))) (.seq (.ret (.con (.bool false))) .nil) .nil) (.seq (.asg 11 (.lst .nil)) (.seq (.forr (.nm 12) .range1 (.cons (.var 2) .nil) (.seq (.forr (.nm 13) .range1 (.cons (.var 2) .nil) (.seq (.ife (.and (.cmp .NotEq (.var 12) (.var 13)) (.and (.cmp .LtE (.idx (.var 3) (.var 12)) (.idx (.var 3) (.var 13))) (.and (.cmp .GtE (.idx (.var 4) (.var 12)) (.idx (.var 4) (.var 13))) (.cmp .LtE (.idx (.var 5) (.var 12)) (.idx (.var 5) (.var 13)))))) (.seq (.ife (.or (.cmp .NotEq (.tup (.cons (.idx (.var 3) (.var 12)) (.cons (.idx (.var 4) (.var 12)) (.cons (.idx (.var 5) (.var 12)) .nil)))) (.tup (.cons (.idx (.var 3) (.var 13)) (.cons (.idx (.var 4) (.var 13)) (.cons (.idx (.var 5) (.var 13)) .nil))))) (.cmp .Lt (.var 12) (.var 13))) (.seq (.exp (.mth .append (.var 11) (.cons (.tup (.cons (.var 12) (.cons (.var 13) .nil))) .nil))) .nil) .nil) .nil) .nil) .nil)) .nil)) (.seq (.ife (.or (.not (.call 2 [false, false] (.cons (.call 13 [false, false, false] (.cons (.var 3) (.cons (.var 4) (.cons (.var 5) .nil)))) (.cons (.blt .tuple (.cons (.var 11) .nil)) .nil)))) (.cmp .NotEq (.idx (.call 12 [false, false, false, false] (.cons (.var 3) (.cons (.var 4) (.cons (.var 5) (.cons (.blt .tuple (.cons (.var 11) .nil)) .nil))))) (.con (.int 0))) (.idx (.blt .min (.cons (.var 8) .nil)) (.con (.int 0))))) (.seq (.ret (.con (.bool false))) .nil) .nil) (.seq (.asg 16 (.blt .tuple (.cons (.comp [23, 15, 24] (.tu (.cons (.nm 15) (.cons (.nm 24) .nil))) .plain (.cons (.blt .sorted (.cons (.comp [23, 14] (.nm 14) .range1 (.cons (.var 2) .nil) .nil (.tup (.cons (.idx (.var 5) (.var 14)) (.cons (.var 14) .nil)))) .nil)) .nil) .nil (.var 24)) .nil))) (.seq (.asg 17 (.call 4 [false, false] (.cons (.var 3) (.cons (.var 16) .nil)))) (.seq (.asg 18 (.comp [23, 14] (.nm 14) .range1 (.cons (.var 2) .nil) (.cons (.cmp .Gt (.idx (.var 17) (.var 14)) (.idx (.var 5) (.var 14))) .nil) (.var 14))) (.seq (.ife (.not (.call 2 [false, false] (.cons (.call 14 [false, false] (.cons (.var 3) (.cons (.var 5) .nil))) (.cons (.cmp .Lt (.blt .len (.cons (.var 18) .nil)) (.con (.int 2))) .nil)))) (.seq (.ret (.con (.bool false))) .nil) .nil) (.seq (.asg 19 (.bin .Mult (.tup (.cons (.con (.int 1)) .nil)) (.var 2))) (.seq (.ife (.and (.cmp .Lt (.blt .len (.cons (.var 18) .nil)) (.con (.int 2))) (.cmp .NotEq (.call 18 [false, false, false, false] (.cons (.var 3) (.cons (.var 19) (.cons (.var 5) (.cons (.var 16) .nil))))) (.blt .min (.cons (.comp [23, 10] (.nm 10) .plain (.cons (.var 6) .nil) .nil (.call 18 [false, false, false, false] (.cons (.var 3) (.cons (.var 19) (.cons (.var 5) (.cons (.var 10) .nil)))))) .nil)))) (.seq (.ret (.con (.bool false))) .nil) .nil) (.seq (.asg 20 (.lst .nil)) (.seq (.forr (.nm 10) .plain (.cons (.var 6) .nil) (.seq (.asg 17 (.call 4 [false, false] (.cons (.var 3) (.cons (.var 10) .nil)))) (.seq (.exp (.mth .append (.var 20) (.cons (.blt .sum (.cons (.comp [23, 14] (.nm 14) .range1 (.cons (.var 2) .nil) .nil (.bin .Mult (.idx (.var 4) (.var 14)) (.bin .Sub (.idx (.var 17) (.var 14)) (.idx (.var 5) (.var 14))))) .nil)) .nil))) .nil))) (.seq (.ife (.or (.not (.call 2 [false, false] (.cons (.call 15 [false, false, false] (.cons (.var 3) (.cons (.var 4) (.cons (.var 5) .nil)))) (.cons (.blt .min (.cons (.var 20) .nil)) .nil)))) (.cmp .Gt (.blt .min (.cons (.var 20) .nil)) (.idx (.blt .min (.cons (.var 8) .nil)) (.con (.int 0))))) (.seq (.ret (.con (.bool false))) .nil) .nil) (.seq (.asg 15 (.con .none)) (.seq (.forr (.nm 14) .range1 (.cons (.bin .Sub (.var 2) (.con (.int 1))) .nil) (.seq (.asg 21 (.bin .Add (.bin .Add (.slc (.var 7) .nil (.var 14)) (.tup (.cons (.idx (.var 7) (.bin .Add (.var 14) (.con (.int 1)))) (.cons (.idx (.var 7) (.var 14)) .nil)))) (.slc (.var 7) (.bin .Add (.var 14) (.con (.int 2))) .nil))) (.seq (.ife (.and (.cmp .Is (.var 15) (.con .none)) (.cmp .Lt (.call 18 [false, false, false, false] (.cons (.var 3) (.cons (.var 4) (.cons (.var 5) (.cons (.var 21) .nil))))) (.call 18 [false, false, false, false] (.cons (.var 3) (.cons (.var 4) (.cons (.var 5) (.cons (.var 7) .nil))))))) (.seq (.asg 15 (.var 21)) .nil) .nil) .nil))) (.seq (.asg 22 (.call 17 [false, false, false, false] (.cons (.var 3) (.cons (.var 4) (.cons (.var 5) (.cons (.var 7) .nil)))))) (.seq (.ife (.or (.not (.call 2 [false, false] (.cons (.call 16 [false, false, false, false] (.cons (.var 3) (.cons (.var 4) (.cons (.var 5) (.cons (.var 7) .nil))))) (.cons (.var 15) .nil)))) (.cmp .IsNot (.call 16 [false, false, false, false] (.cons (.var 3) (.cons (.var 4) (.cons (.var 5) (.cons (.var 22) .nil))))) (.con .none))) (.seq (.ret (.con (.bool false))) .nil) .nil) (.seq (.ret (.and (.cmp .Eq (.blt .sorted (.cons (.var 22) .nil)) (.blt .listr (.cons (.con (.int 0)) (.cons (.var 2) .nil)))) (.and (.cmp .LtE (.call 18 [false, false, false, false] (.cons (.var 3) (.cons (.var 4) (.cons (.var 5) (.cons (.var 22) .nil))))) (.call 18 [false, false, false, false] (.cons (.var 3) (.cons (.var 4) (.cons (.var 5) (.cons (.var 7) .nil)))))) (.or (.cmp .IsNot (.var 15) (.con .none)) (.cmp .Eq (.var 22) (.var 7)))))) .nil))))))))))))))))))))))))))))
/-- [script, state, many, times, weights, dues, orders, order, sums, pairs, one, sure, a, b, k, due, row, ends, late, plain, bounds, there, best, .0, job] -/
@[reducible] def f19 : Fn := ⟨[false], 25, b19⟩
@[reducible] def P : List Fn := [f0, f1, f2, f3, f4, f5, f6, f7, f8, f9, f10, f11, f12, f13, f14, f15, f16, f17, f18, f19]
end DM.k05
set_option Elab.async false
set_option linter.all false
set_option maxRecDepth 100000
set_option maxHeartbeats 1000000
/-! LA_k05: sums of lateness: exchanges. -/
namespace DM.k05
open PySem DM
/-- m jobs with times, weights, dues -/
structure Jb (m : Nat) (t w d : List Int) : Prop where
  m6 : m ≤ 6
  tl : t.length = m
  wl : w.length = m
  dl : d.length = m
  t1 : ∀ v ∈ t, 1 ≤ v ∧ v ≤ 6
  w1 : ∀ v ∈ w, 0 ≤ v ∧ v ≤ 4
  d1 : ∀ v ∈ d, 0 ≤ v ∧ v ≤ 16
section
variable {m : Nat} {t w d : List Int}
theorem Jb.tp (h : Jb m t w d) {j : Nat} (hj : j < m) : 1 ≤ ig t j ∧ ig t j ≤ 6 := h.t1 _ (ig_mem (by rw [h.tl]; exact hj))
theorem Jb.wp (h : Jb m t w d) {j : Nat} (hj : j < m) : 0 ≤ ig w j ∧ ig w j ≤ 4 := h.w1 _ (ig_mem (by rw [h.wl]; exact hj))
theorem Jb.dp (h : Jb m t w d) {j : Nat} (hj : j < m) : 0 ≤ ig d j ∧ ig d j ≤ 16 := h.d1 _ (ig_mem (by rw [h.dl]; exact hj))
theorem Jb.t0 (h : Jb m t w d) (j : Nat) : 0 ≤ ig t j := ig_nn (fun v hv => by have := h.t1 v hv; omega) j
theorem Jb.w0 (h : Jb m t w d) (j : Nat) : 0 ≤ ig w j := ig_nn (fun v hv => (h.w1 v hv).1) j
/-- late, weighed -/
def Fl (w d : List Int) (j : Nat) (e : Int) : Int := ig w j * max 0 (e - ig d j)
/-- ends less dues, weighed -/
def Fb (w d : List Int) (j : Nat) (e : Int) : Int := ig w j * (e - ig d j)
def lsum (t w d : List Int) (o : List Nat) : Int := ((List.range t.length).map fun j => ig w j * max 0 (ig (ends t o) j - ig d j)).sum
def bsum (t w d : List Int) (o : List Nat) : Int := ((List.range t.length).map fun j => ig w j * (ig (ends t o) j - ig d j)).sum
theorem lsum_cst {o : List Nat} (hm : t.length = m) (ho : Ord m o) : lsum t w d o = cst t (Fl w d) 0 o := by
  unfold lsum
  rw [hm]
  exact sum_cst (F := Fl w d) hm ho
theorem bsum_cst {o : List Nat} (hm : t.length = m) (ho : Ord m o) : bsum t w d o = cst t (Fb w d) 0 o := by
  unfold bsum
  rw [hm]
  exact sum_cst (F := Fb w d) hm ho
theorem bsum_le (h : Jb m t w d) (o : List Nat) : bsum t w d o ≤ lsum t w d o := by
  unfold bsum lsum
  refine sum_le_sum fun j hj => ?_
  exact Int.mul_le_mul_of_nonneg_left (by omega) (h.w0 j)
theorem Fl_mono (hw : ∀ j, 0 ≤ ig w j) (j : Nat) (a b : Int) (h : a ≤ b) : Fl w d j a ≤ Fl w d j b := Int.mul_le_mul_of_nonneg_left (by omega) (hw j)
/-! ### two jobs exchanged -/
theorem two_le {wa wb x y : Int} (h1 : wb ≤ wa) (h0 : 0 ≤ wb) (hy : 0 ≤ y) (h2 : y ≤ x) : wb * y ≤ wa * x :=
  Int.le_trans (Int.mul_le_mul_of_nonneg_left h2 h0) (Int.mul_le_mul_of_nonneg_right h1 (by omega))
theorem exch (h : Jb m t w d) {a b : Nat} (ht : ig t a ≤ ig t b) (hw : ig w b ≤ ig w a) (hd : ig d a ≤ ig d b) (p q s : List Nat) (h0 : Int) :
    cst t (Fl w d) h0 (p ++ a :: (q ++ b :: s)) ≤ cst t (Fl w d) h0 (p ++ b :: (q ++ a :: s)) := by
  rw [cst_app, cst_app]
  refine Int.add_le_add_left ?_ _
  generalize h0 + tt t p = h1
  show Fl w d a (h1 + ig t a) + cst t (Fl w d) (h1 + ig t a) (q ++ b :: s) ≤ Fl w d b (h1 + ig t b) + cst t (Fl w d) (h1 + ig t b) (q ++ a :: s)
  rw [cst_app, cst_app]
  show Fl w d a (h1 + ig t a) + (cst t (Fl w d) (h1 + ig t a) q + (Fl w d b (h1 + ig t a + tt t q + ig t b) + cst t (Fl w d) (h1 + ig t a + tt t q + ig t b) s)) ≤ Fl w d b (h1 + ig t b) + (cst t (Fl w d) (h1 + ig t b) q + (Fl w d a (h1 + ig t b + tt t q + ig t a) + cst t (Fl w d) (h1 + ig t b + tt t q + ig t a) s))
  have eE : h1 + ig t b + tt t q + ig t a = h1 + ig t a + tt t q + ig t b := by omega
  rw [eE]
  have m1 := cst_mono (t := t) (Fl_mono (w := w) (d := d) h.w0) q (h1 + ig t a) (h1 + ig t b) (by omega)
  have hq : 0 ≤ tt t q := by
    unfold tt
    have := sum_sub (f := ig t) h.t0 [] q List.nodup_nil (fun x hx => nomatch hx)
    simpa using this
  have m2 := Fl_mono (w := w) (d := d) h.w0 a (h1 + ig t a) (h1 + ig t b) (by omega)
  have ta := h.t0 a
  have m3 : Fl w d a (h1 + ig t b) + Fl w d b (h1 + ig t a + tt t q + ig t b) ≤ Fl w d b (h1 + ig t b) + Fl w d a (h1 + ig t a + tt t q + ig t b) := by
    generalize hE : h1 + ig t a + tt t q + ig t b = E
    generalize he : h1 + ig t b = e
    have hle : e ≤ E := by omega
    unfold Fl
    have k1 : ig w b * (max 0 (E - ig d b) - max 0 (e - ig d b)) ≤ ig w a * (max 0 (E - ig d a) - max 0 (e - ig d a)) := two_le hw (h.w0 b) (by omega) (by omega)
    rw [Int.mul_sub, Int.mul_sub] at k1
    omega
  omega
/-! ### by weights over times -/
/-- x may stand ahead of y -/
def Ah (t w : List Int) (x y : Nat) : Prop := ig w y * ig t x ≤ ig w x * ig t y
theorem lin_front : ∀ (u v : List Nat) (x : Nat) (h : Int), (∀ y ∈ u, Ah t w x y) → cst t (Fb w d) h (x :: (u ++ v)) ≤ cst t (Fb w d) h (u ++ x :: v)
  | [], v, x, h, _ => Int.le_refl _
  | y :: u, v, x, h, hr => by
    have ih := lin_front u v x (h + ig t y) fun z hz => hr z (List.mem_cons_of_mem _ hz)
    have hy : ig w y * ig t x ≤ ig w x * ig t y := hr y (List.mem_cons_self ..)
    have e1 : cst t (Fb w d) (h + ig t y) (x :: (u ++ v)) = Fb w d x (h + ig t y + ig t x) + cst t (Fb w d) (h + ig t y + ig t x) (u ++ v) := rfl
    have e2 : cst t (Fb w d) h (x :: (y :: u ++ v)) = Fb w d x (h + ig t x) + (Fb w d y (h + ig t x + ig t y) + cst t (Fb w d) (h + ig t x + ig t y) (u ++ v)) := rfl
    have e3 : cst t (Fb w d) h (y :: u ++ x :: v) = Fb w d y (h + ig t y) + cst t (Fb w d) (h + ig t y) (u ++ x :: v) := rfl
    rw [e2, e3]
    rw [e1] at ih
    have e4 : h + ig t x + ig t y = h + ig t y + ig t x := by omega
    rw [e4]
    have e5 : Fb w d x (h + ig t x) + Fb w d y (h + ig t y + ig t x) ≤ Fb w d y (h + ig t y) + Fb w d x (h + ig t y + ig t x) := by
      unfold Fb
      simp only [Int.mul_sub, Int.mul_add]
      omega
    omega
theorem lin_sorted : ∀ (s l : List Nat) (h : Int), s.Pairwise (Ah t w) → l.Perm s → cst t (Fb w d) h s ≤ cst t (Fb w d) h l
  | [], l, h, _, hp => by rw [hp.eq_nil]; exact Int.le_refl _
  | x :: s, l, h, hs, hp => by
    have hs' := List.pairwise_cons.mp hs
    obtain ⟨u, v, rfl⟩ := List.append_of_mem (hp.mem_iff.mpr (List.mem_cons_self ..))
    have hp2 : (u ++ v).Perm s := List.Perm.cons_inv (List.perm_middle.symm.trans hp)
    have h1 := lin_front (d := d) u v x h fun y hy => hs'.1 y (hp2.mem_iff.mp (List.mem_append_left _ hy))
    have h2 := lin_sorted s (u ++ v) (h + ig t x) hs'.2 hp2
    have e1 : cst t (Fb w d) h (x :: s) = Fb w d x (h + ig t x) + cst t (Fb w d) (h + ig t x) s := rfl
    have e2 : cst t (Fb w d) h (x :: (u ++ v)) = Fb w d x (h + ig t x) + cst t (Fb w d) (h + ig t x) (u ++ v) := rfl
    omega
theorem Ah.trans {x y z : Nat} (hy : 0 < ig t y) (hx : 0 ≤ ig t x) (hz : 0 ≤ ig t z) (h1 : Ah t w x y) (h2 : Ah t w y z) : Ah t w x z := by
  unfold Ah at *
  have a1 : ig w z * ig t y * ig t x ≤ ig w y * ig t z * ig t x := Int.mul_le_mul_of_nonneg_right h2 hx
  have a2 : ig w y * ig t x * ig t z ≤ ig w x * ig t y * ig t z := Int.mul_le_mul_of_nonneg_right h1 hz
  have e1 : ig w z * ig t y * ig t x = ig w z * ig t x * ig t y := by rw [Int.mul_assoc, Int.mul_comm (ig t y), ← Int.mul_assoc]
  have e2 : ig w y * ig t z * ig t x = ig w y * ig t x * ig t z := by rw [Int.mul_assoc, Int.mul_comm (ig t z), ← Int.mul_assoc]
  have e3 : ig w x * ig t y * ig t z = ig w x * ig t z * ig t y := by rw [Int.mul_assoc, Int.mul_comm (ig t y), ← Int.mul_assoc]
  exact Int.le_of_mul_le_mul_right (by rw [← e1, ← e3]; exact Int.le_trans a1 (by rw [e2]; exact a2)) hy
/-! ### pairs that may stand in order -/
def surL (t w d : List Int) (a b : Nat) : Bool := decide (a ≠ b) && (decide (ig t a ≤ ig t b) && (decide (ig w a ≥ ig w b) && decide (ig d a ≤ ig d b)))
def alik (t w d : List Int) (a b : Nat) : Bool := decide (ig t a = ig t b) && (decide (ig w a = ig w b) && decide (ig d a = ig d b))
def surB (t w d : List Int) (a b : Nat) : Bool := surL t w d a b && (!alik t w d a b || decide (a < b))
def keyK (t w d : List Int) (j : Nat) : Int := (ig t j - ig w j + ig d j) * 8 + (j : Int)
theorem sur_key {a b : Nat} (ha : a < 8) (hb : b < 8) (h : surB t w d a b = true) : keyK t w d a < keyK t w d b := by
  unfold surB surL alik at h
  simp only [Bool.and_eq_true, Bool.or_eq_true, decide_eq_true_eq, Bool.not_eq_true'] at h
  obtain ⟨⟨h1, h2, h3, h4⟩, h5⟩ := h
  unfold keyK
  rcases h5 with h5 | h5
  · by_cases e1 : ig t a = ig t b
    · by_cases e2 : ig w a = ig w b
      · by_cases e3 : ig d a = ig d b
        · rw [decide_eq_true e1, decide_eq_true e2, decide_eq_true e3] at h5; cases h5
        · omega
      · omega
    · omega
  · omega
/-- each key as often as jobs stand behind -/
def rank (K : Nat → Int) : List Nat → Int
  | [] => 0
  | j :: o => (o.length : Int) * K j + rank K o
theorem rank_len (K : Nat → Int) {x y : List Nat} (h : x.length = y.length) : ∀ p : List Nat, rank K (p ++ x) - rank K x = rank K (p ++ y) - rank K y
  | [] => by simp
  | j :: p => by
    have ih := rank_len K h p
    show ((p ++ x).length : Int) * K j + rank K (p ++ x) - rank K x = ((p ++ y).length : Int) * K j + rank K (p ++ y) - rank K y
    rw [List.length_append, List.length_append, h]
    omega
theorem rank_exch (K : Nat → Int) (p q s : List Nat) {a b : Nat} (h : K a < K b) : rank K (p ++ a :: (q ++ b :: s)) < rank K (p ++ b :: (q ++ a :: s)) := by
  have h1 := rank_len K (x := a :: (q ++ b :: s)) (y := b :: (q ++ a :: s)) (by simp) p
  have h2 := rank_len K (x := b :: s) (y := a :: s) (by simp) q
  have e1 : rank K (a :: (q ++ b :: s)) = ((q ++ b :: s).length : Int) * K a + rank K (q ++ b :: s) := rfl
  have e2 : rank K (b :: (q ++ a :: s)) = ((q ++ a :: s).length : Int) * K b + rank K (q ++ a :: s) := rfl
  have e3 : rank K (b :: s) = (s.length : Int) * K b + rank K s := rfl
  have e4 : rank K (a :: s) = (s.length : Int) * K a + rank K s := rfl
  have e5 : (q ++ b :: s).length = q.length + (s.length + 1) := by simp
  have e6 : (q ++ a :: s).length = q.length + (s.length + 1) := by simp
  rw [e5] at e1
  rw [e6] at e2
  have k1 : ((q.length + (s.length + 1) : Nat) : Int) * K a = (q.length : Int) * K a + ((s.length : Int) * K a + K a) := by
    rw [Int.natCast_add, Int.natCast_add, Int.add_mul, Int.add_mul, Int.natCast_one, Int.one_mul]
  have k2 : ((q.length + (s.length + 1) : Nat) : Int) * K b = (q.length : Int) * K b + ((s.length : Int) * K b + K b) := by
    rw [Int.natCast_add, Int.natCast_add, Int.add_mul, Int.add_mul, Int.natCast_one, Int.one_mul]
  have k3 : (q.length : Int) * K a ≤ (q.length : Int) * K b := Int.mul_le_mul_of_nonneg_left (by omega) (by omega)
  omega
end
end DM.k05
set_option Elab.async false
set_option linter.all false
set_option maxRecDepth 100000
set_option maxHeartbeats 1000000
/-! LB_k05: sure pairs; orders by dues. -/
namespace DM.k05
open PySem DM
section
variable {m : Nat} {t w d : List Int}
def sur (m : Nat) (t w d : List Int) : List (Nat × Nat) := (List.range m).flatMap fun a => ((List.range m).filter fun b => surB t w d a b).map fun b => (a, b)
theorem sur_mem {p : Nat × Nat} : p ∈ sur m t w d ↔ p.1 < m ∧ p.2 < m ∧ surB t w d p.1 p.2 = true := by
  unfold sur
  rw [List.mem_flatMap]
  constructor
  · rintro ⟨a, ha, h⟩
    obtain ⟨b, hb, rfl⟩ := List.mem_map.mp h
    have hb := List.mem_filter.mp hb
    exact ⟨List.mem_range.mp ha, List.mem_range.mp hb.1, hb.2⟩
  · rintro ⟨h1, h2, h3⟩
    exact ⟨p.1, List.mem_range.mpr h1, List.mem_map.mpr ⟨p.2, List.mem_filter.mpr ⟨List.mem_range.mpr h2, h3⟩, rfl⟩⟩
theorem surL_of {a b : Nat} (h : surB t w d a b = true) : a ≠ b ∧ ig t a ≤ ig t b ∧ ig w b ≤ ig w a ∧ ig d a ≤ ig d b := by
  unfold surB surL at h
  simp only [Bool.and_eq_true, decide_eq_true_eq] at h
  exact ⟨h.1.1, h.1.2.1, h.1.2.2.1, h.1.2.2.2⟩
/-- the members of pairs -/
def PrOk (m : Nat) (ps : List (Nat × Nat)) : Prop := ∀ p ∈ ps, p.1 < m ∧ p.2 < m ∧ p.1 ≠ p.2
theorem sur_ok : PrOk m (sur m t w d) := fun p hp => by
  have h := sur_mem.mp hp
  exact ⟨h.1, h.2.1, (surL_of h.2.2).1⟩
theorem PrOk.mem {ps : List (Nat × Nat)} {o : List Nat} (h : PrOk m ps) (ho : Ord m o) : ∀ p ∈ ps, p.1 ∈ o ∧ p.2 ∈ o ∧ p.1 ≠ p.2 := fun p hp => ⟨ho.mem (h p hp).1, ho.mem (h p hp).2.1, (h p hp).2.2⟩
theorem sure_opt (h : Jb m t w d) {o : List Nat} (ho : Ord m o) : ∃ o', Ord m o' ∧ kept (sur m t w d) o' = true ∧ lsum t w d o' ≤ lsum t w d o := by
  have hmem : o ∈ (ords m m).filter fun x => decide (lsum t w d x ≤ lsum t w d o) := List.mem_filter.mpr ⟨ho.ords, decide_eq_true (Int.le_refl _)⟩
  have hne : ((ords m m).filter fun x => decide (lsum t w d x ≤ lsum t w d o)).map (rank (keyK t w d)) ≠ [] := fun z => by
    rw [List.map_eq_nil_iff] at z
    rw [z] at hmem
    exact nomatch hmem
  obtain ⟨o', h1, h2⟩ := List.mem_map.mp (minZ_mem hne)
  have h3 := List.mem_filter.mp h1
  have ho' := ords_ord h3.1
  have hle := of_decide_eq_true h3.2
  refine ⟨o', ho', ?_, hle⟩
  rw [kept_iff ho'.nd (sur_ok.mem ho')]
  rw [← kept_iff ho'.nd (sur_ok.mem ho')]
  unfold kept
  rw [decide_eq_true_eq, List.filter_eq_nil_iff]
  intro p hp hgt
  have hgt : pos o' p.2 < pos o' p.1 := by simpa using hgt
  have hs := sur_mem.mp hp
  obtain ⟨_, k1, k2, k3⟩ := surL_of hs.2.2
  obtain ⟨u, q, s, e⟩ := pos_split ho'.nd (ho'.mem hs.1) (ho'.mem hs.2.1) hgt
  have m6 := h.m6
  have hK := sur_key (by omega) (by omega) hs.2.2
  have hlt := rank_exch (keyK t w d) u q s hK
  have hp2 : (u ++ p.1 :: (q ++ p.2 :: s)).Perm (u ++ p.2 :: (q ++ p.1 :: s)) := by
    refine List.Perm.append_left u ?_
    refine (List.Perm.cons _ List.perm_middle).trans ?_
    refine (List.Perm.swap _ _ _).trans ?_
    exact List.Perm.cons _ List.perm_middle.symm
  have ho2 : Ord m (u ++ p.1 :: (q ++ p.2 :: s)) := hp2.trans (by rw [← e]; exact ho')
  have hc := exch h k1 k2 k3 u q s 0
  rw [← e] at hc hlt
  rw [← lsum_cst h.tl ho2, ← lsum_cst h.tl ho'] at hc
  have hin : u ++ p.1 :: (q ++ p.2 :: s) ∈ (ords m m).filter fun x => decide (lsum t w d x ≤ lsum t w d o) := List.mem_filter.mpr ⟨ho2.ords, decide_eq_true (by omega)⟩
  have := minZ_le (List.mem_map_of_mem (f := rank (keyK t w d)) hin)
  omega
/-! ### orders by dues -/
def keysD (d : List Int) (m : Nat) : List (Int × Nat) := (List.range m).map fun j => (ig d j, j)
def edd (d : List Int) (m : Nat) : List Nat := (srtE eP (keysD d m)).map (·.2)
theorem srtP_fst (ts : List (Int × Nat)) : (srtE eP ts).Pairwise fun a b => a.1 ≤ b.1 := by
  have h := List.pairwise_mergeSort (le := fun a b : Int × Nat => W.dataLe false id (eP a) (eP b)) (fun a b c => by
    have e := W.dataLe_ii (β := Int × Nat) (fun x => x.1) (fun x => (x.2 : Int))
    intro h1 h2
    have h1 : W.dataLe false (fun b : Int × Nat => PyData.tuple [.int b.1, .int (b.2 : Int)]) a b = true := h1
    have h2 : W.dataLe false (fun b : Int × Nat => PyData.tuple [.int b.1, .int (b.2 : Int)]) b c = true := h2
    show W.dataLe false (fun b : Int × Nat => PyData.tuple [.int b.1, .int (b.2 : Int)]) a c = true
    rw [e] at h1 h2 ⊢
    simp only [decide_eq_true_eq] at h1 h2 ⊢
    omega) (fun a b => by
    have e := W.dataLe_ii (β := Int × Nat) (fun x => x.1) (fun x => (x.2 : Int))
    show (W.dataLe false (fun b : Int × Nat => PyData.tuple [.int b.1, .int (b.2 : Int)]) a b || W.dataLe false (fun b : Int × Nat => PyData.tuple [.int b.1, .int (b.2 : Int)]) b a) = true
    rw [e]
    simp only [Bool.or_eq_true, decide_eq_true_eq]
    omega) ts
  refine List.Pairwise.imp (fun {a b} hab => ?_) h
  have e := W.dataLe_ii (β := Int × Nat) (fun x => x.1) (fun x => (x.2 : Int))
  have hab : W.dataLe false (fun b : Int × Nat => PyData.tuple [.int b.1, .int (b.2 : Int)]) a b = true := hab
  rw [e] at hab
  simp only [decide_eq_true_eq] at hab
  omega
theorem edd_ord : Ord m (edd d m) := by
  unfold edd
  refine ((srtE_perm eP _).map _).trans ?_
  unfold keysD
  rw [List.map_map]
  show ((List.range m).map id).Perm _
  rw [List.map_id]
theorem edd_sorted : (edd d m).Pairwise fun a b => ig d a ≤ ig d b := by
  unfold edd
  rw [List.pairwise_map]
  refine List.Pairwise.imp_of_mem (fun {a b} ha hb hab => ?_) (srtP_fst (keysD d m))
  have e : ∀ x ∈ srtE eP (keysD d m), x.1 = ig d x.2 := fun x hx => by
    obtain ⟨j, _, rfl⟩ := List.mem_map.mp ((srtE_perm eP _).mem_iff.mp hx)
    rfl
  rw [← e a ha, ← e b hb]
  exact hab
theorem last_of {P : Nat → Prop} [DecidablePred P] : ∀ {o : List Nat}, (∃ x ∈ o, P x) → ∃ u l v, o = u ++ l :: v ∧ P l ∧ ∀ x ∈ v, ¬ P x
  | x :: o, h => by
    by_cases h2 : ∃ y ∈ o, P y
    · obtain ⟨u, l, v, rfl, h3, h4⟩ := last_of h2
      exact ⟨x :: u, l, v, rfl, h3, h4⟩
    · obtain ⟨y, hy, py⟩ := h
      refine ⟨[], x, o, rfl, ?_, fun z hz pz => h2 ⟨z, hz, pz⟩⟩
      rcases List.mem_cons.mp hy with e | hy
      · rwa [← e]
      · exact absurd ⟨y, hy, py⟩ h2
def ones (m : Nat) : List Int := List.replicate m 1
theorem plain_eq (h : Jb m t w d) (o : List Nat) : lsum t (ones m) d o = ((List.range m).map fun j => max 0 (ig (ends t o) j - ig d j)).sum := by
  unfold lsum
  rw [h.tl]
  congr 1
  refine List.map_congr_left fun j hj => ?_
  unfold ones
  rw [ig_rep m 1 (List.mem_range.mp hj), Int.one_mul]
theorem edd_le (h : Jb m t w d) {o : List Nat} (ho : Ord m o) {j : Nat} (hj : j < m) : max 0 (ig (ends t (edd d m)) j - ig d j) ≤ lsum t (ones m) d o := by
  obtain ⟨p, s, e⟩ := List.append_of_mem (edd_ord (d := d).mem hj)
  have hE : Ord m (p ++ j :: s) := by rw [← e]; exact edd_ord
  have hS := edd_sorted (d := d) (m := m)
  rw [e] at hS ⊢
  rw [end_at h.tl hE]
  obtain ⟨u, l, v, rfl, hl, hv⟩ := last_of (P := fun x => x ∈ p ++ [j]) (o := o) ⟨j, ho.mem hj, by simp⟩
  have hlm : l < m := ho.lt (by simp)
  have hend := end_at h.tl ho
  have hdl : ig d l ≤ ig d j := by
    rcases List.mem_append.mp hl with z | z
    · exact (List.pairwise_append.mp hS).2.2 l z j (List.mem_cons_self ..)
    · rw [List.mem_singleton.mp z]; exact Int.le_refl _
  have hT : tt t (p ++ [j]) ≤ tt t (u ++ [l]) := by
    refine sum_sub h.t0 _ _ ?_ ?_
    · have : (p ++ [j] ++ s).Nodup := by rw [List.append_assoc]; exact hE.nd
      exact (List.nodup_append.mp this).1
    · intro x hx
      have hx2 : x ∈ u ++ l :: v := ho.mem (hE.lt (by rcases List.mem_append.mp hx with z | z; exact List.mem_append_left _ z; rw [List.mem_singleton.mp z]; simp))
      rcases List.mem_append.mp hx2 with z | z
      · exact List.mem_append_left _ z
      · rcases List.mem_cons.mp z with z | z
        · rw [z]; simp
        · exact absurd hx (hv x z)
  rw [tt_app, tt_app] at hT
  have e1 : tt t [j] = ig t j := by rw [tt_cons]; show _ + 0 = _; rw [Int.add_zero]
  have e2 : tt t [l] = ig t l := by rw [tt_cons]; show _ + 0 = _; rw [Int.add_zero]
  rw [plain_eq h]
  have hg := sum_ge (f := fun k => max 0 (ig (ends t (u ++ l :: v)) k - ig d k)) (List.mem_range.mpr hlm) (fun y _ => by show 0 ≤ max 0 _; omega)
  simp only [hend] at hg
  omega
def late (t d : List Int) (m : Nat) : List Nat := (List.range m).filter fun k => decide (ig (ends t (edd d m)) k > ig d k)
theorem sum_filter {T : Type} {f : T → Int} {p : T → Bool} : ∀ {l : List T}, (∀ x ∈ l, p x = false → f x = 0) → (l.map f).sum = ((l.filter p).map f).sum
  | [], _ => rfl
  | x :: l, h => by
    have ih := sum_filter fun y hy => h y (List.mem_cons_of_mem _ hy)
    rw [List.map_cons, List.sum_cons, List.filter_cons]
    by_cases hp : p x = true
    · rw [if_pos hp, List.map_cons, List.sum_cons, ih]
    · rw [if_neg hp, h x (List.mem_cons_self ..) (by simpa using hp), ih, Int.zero_add]
theorem one_late (h : Jb m t w d) (hl : (late t d m).length < 2) {o : List Nat} (ho : Ord m o) : lsum t (ones m) d (edd d m) ≤ lsum t (ones m) d o := by
  rw [plain_eq h (edd d m), sum_filter (p := fun k => decide (ig (ends t (edd d m)) k > ig d k)) (fun x _ hx => by
    have := of_decide_eq_false hx
    omega)]
  show ((late t d m).map _).sum ≤ _
  have h0 : 0 ≤ lsum t (ones m) d o := by
    rw [plain_eq h]
    have := sum_le_sum (f := fun _ => 0) (g := fun k => max 0 (ig (ends t o) k - ig d k)) (l := List.range m) (fun x _ => by show (0 : Int) ≤ max 0 _; omega)
    have e0 : ∀ l : List Nat, (l.map fun _ => (0 : Int)).sum = 0 := by
      intro l
      induction l with
      | nil => rfl
      | cons x l ih => rw [List.map_cons, List.sum_cons, ih]; rfl
    rw [e0] at this
    exact this
  match hL : late t d m with
  | [] => exact h0
  | [j] =>
    have hj : j < m := by
      have : j ∈ late t d m := by rw [hL]; simp
      exact List.mem_range.mp (List.mem_filter.mp this).1
    have := edd_le h ho hj
    simpa using this
  | _ :: _ :: _ => rw [hL] at hl; simp at hl; omega
end
end DM.k05
set_option Elab.async false
set_option linter.all false
set_option maxRecDepth 100000
set_option maxHeartbeats 1000000
/-! LC_k05: least sums by sets. -/
namespace DM.k05
open PySem DM
/-! ### (sum, row): the order -/
abbrev SR := Int × List Nat
def llt : List Nat → List Nat → Bool
  | [], [] => false
  | [], _ :: _ => true
  | _ :: _, [] => false
  | a :: r, b :: s => if a = b then llt r s else decide (a < b)
def plt (x y : SR) : Bool := if x.1 = y.1 then llt x.2 y.2 else decide (x.1 < y.1)
theorem llt_irr : ∀ r : List Nat, llt r r = false
  | [] => rfl
  | a :: r => by rw [llt, if_pos rfl, llt_irr r]
theorem llt_tot : ∀ {r s : List Nat}, llt r s = false → llt s r = false → r = s
  | [], [], _, _ => rfl
  | [], _ :: _, h, _ => by cases h
  | _ :: _, [], _, h => by cases h
  | a :: r, b :: s, h1, h2 => by
    rw [llt] at h1 h2
    by_cases e : a = b
    · subst e
      rw [if_pos rfl] at h1 h2
      rw [llt_tot h1 h2]
    · rw [if_neg e] at h1
      rw [if_neg (fun z => e z.symm)] at h2
      have := of_decide_eq_false h1
      have := of_decide_eq_false h2
      omega
theorem llt_trans : ∀ {r s u : List Nat}, llt r s = true → llt s u = true → llt r u = true
  | [], [], _, h, _ => by cases h
  | [], _ :: _, [], _, h => by cases h
  | [], _ :: _, _ :: _, _, _ => rfl
  | _ :: _, [], _, h, _ => by cases h
  | _ :: _, _ :: _, [], _, h => by cases h
  | a :: r, b :: s, c :: u, h1, h2 => by
    rw [llt] at h1 h2 ⊢
    by_cases e : a = b
    · subst e
      rw [if_pos rfl] at h1
      by_cases e2 : a = c
      · subst e2
        rw [if_pos rfl] at h2 ⊢
        exact llt_trans h1 h2
      · rw [if_neg e2] at h2 ⊢
        exact h2
    · rw [if_neg e] at h1
      have h1 := of_decide_eq_true h1
      by_cases e2 : b = c
      · subst e2
        rw [if_neg e]
        exact decide_eq_true h1
      · rw [if_neg e2] at h2
        have h2 := of_decide_eq_true h2
        rw [if_neg (by omega)]
        exact decide_eq_true (by omega)
theorem llt_app (j : Nat) : ∀ {r s : List Nat}, r.length = s.length → llt (r ++ [j]) (s ++ [j]) = llt r s
  | [], [], _ => by show llt [j] [j] = _; rw [llt_irr]; rfl
  | [], _ :: _, h => by simp at h
  | _ :: _, [], h => by simp at h
  | a :: r, b :: s, h => by
    show llt (a :: (r ++ [j])) (b :: (s ++ [j])) = _
    rw [llt, llt, llt_app j (by simpa using h)]
theorem plt_irr (x : SR) : plt x x = false := by rw [plt, if_pos rfl, llt_irr]
theorem plt_tot {x y : SR} (h1 : plt x y = false) (h2 : plt y x = false) : x = y := by
  unfold plt at h1 h2
  by_cases e : x.1 = y.1
  · rw [if_pos e] at h1
    rw [if_pos e.symm] at h2
    exact Prod.ext e (llt_tot h1 h2)
  · rw [if_neg e] at h1
    rw [if_neg (fun z => e z.symm)] at h2
    have := of_decide_eq_false h1
    have := of_decide_eq_false h2
    omega
theorem plt_trans {x y z : SR} (h1 : plt x y = true) (h2 : plt y z = true) : plt x z = true := by
  unfold plt at *
  by_cases e : x.1 = y.1
  · rw [if_pos e] at h1
    by_cases e2 : y.1 = z.1
    · rw [if_pos e2] at h2
      rw [if_pos (e.trans e2)]
      exact llt_trans h1 h2
    · rw [if_neg e2] at h2
      have h2 := of_decide_eq_true h2
      rw [if_neg (by omega)]
      exact decide_eq_true (by omega)
  · rw [if_neg e] at h1
    have h1 := of_decide_eq_true h1
    by_cases e2 : y.1 = z.1
    · rw [if_neg (by omega)]
      exact decide_eq_true (by omega)
    · rw [if_neg e2] at h2
      have h2 := of_decide_eq_true h2
      rw [if_neg (by omega)]
      exact decide_eq_true (by omega)
/-- not less, twice -/
theorem ple_trans {x y z : SR} (h1 : plt x y = false) (h2 : plt y z = false) : plt x z = false := by
  cases h : plt x z with
  | false => rfl
  | true =>
    cases h3 : plt y x with
    | true => rw [plt_trans h3 h] at h2; cases h2
    | false =>
      have := plt_tot h1 h3
      subst this
      rw [h2] at h
      cases h
theorem plt_add {c c' x : Int} {r s : List Nat} (j : Nat) (h : r.length = s.length) : plt (c + x, r ++ [j]) (c' + x, s ++ [j]) = plt (c, r) (c', s) := by
  unfold plt
  by_cases e : c = c'
  · rw [if_pos e, if_pos (show c + x = c' + x by omega)]
    exact llt_app j h
  · rw [if_neg e, if_neg (show ¬ c + x = c' + x by omega)]
    by_cases h2 : c < c'
    · rw [decide_eq_true h2, decide_eq_true (show c + x < c' + x by omega)]
    · rw [decide_eq_false h2, decide_eq_false (show ¬ c + x < c' + x by omega)]
/-! ### sets as numbers -/
def bit (M j : Nat) : Bool := decide (M / 2 ^ j % 2 = 1)
theorem bit_tb (M j : Nat) : bit M j = M.testBit j := by
  unfold bit
  rw [Nat.testBit_eq_decide_div_mod_eq]
def msk (r : List Nat) : Nat := r.foldl (fun M j => M ||| 2 ^ j) 0
theorem msk_snoc (r : List Nat) (j : Nat) : msk (r ++ [j]) = msk r ||| 2 ^ j := by unfold msk; rw [List.foldl_append]; rfl
theorem bit_or (M j i : Nat) : bit (M ||| 2 ^ j) i = (bit M i || decide (j = i)) := by
  rw [bit_tb, bit_tb, Nat.testBit_or, Nat.testBit_two_pow]
theorem snoc_ind {P : List Nat → Prop} (h0 : P []) (hs : ∀ r j, P r → P (r ++ [j])) (r : List Nat) : P r := by
  rw [← List.reverse_reverse r]
  generalize r.reverse = q
  induction q with
  | nil => exact h0
  | cons x q ih => rw [List.reverse_cons]; exact hs _ _ ih
theorem bit_msk (r : List Nat) (i : Nat) : bit (msk r) i = decide (i ∈ r) := by
  refine snoc_ind (P := fun r => bit (msk r) i = decide (i ∈ r)) ?_ ?_ r
  · show bit 0 i = decide (i ∈ [])
    rw [bit_tb]
    simp
  · intro r j ih
    rw [msk_snoc, bit_or, ih]
    by_cases h : i ∈ r
    · simp [h]
    · by_cases h2 : j = i
      · subst h2; simp
      · have h3 : i ≠ j := fun e => h2 e.symm
        simp [h, h2, h3]
theorem bit_ext {M N : Nat} (h : ∀ i, bit M i = bit N i) : M = N := Nat.eq_of_testBit_eq fun i => by rw [← bit_tb, ← bit_tb, h]
theorem msk_eq {r s : List Nat} : msk r = msk s ↔ ∀ i, i ∈ r ↔ i ∈ s := by
  constructor
  · intro h i
    have := congrArg (fun M => bit M i) h
    simp only [bit_msk, decide_eq_decide] at this
    exact this
  · intro h
    exact bit_ext fun i => by rw [bit_msk, bit_msk]; exact decide_eq_decide.mpr (h i)
theorem msk_full {m : Nat} {o : List Nat} (ho : Ord m o) : msk o = 2 ^ m - 1 := bit_ext fun i => by
  rw [bit_msk, bit_tb, Nat.testBit_two_pow_sub_one]
  exact decide_eq_decide.mpr ⟨fun h => ho.lt h, fun h => ho.mem h⟩
theorem msk_lt {m : Nat} : ∀ {r : List Nat}, (∀ j ∈ r, j < m) → msk r < 2 ^ m := fun {r} h => by
  refine Nat.lt_pow_two_of_testBit _ fun i hi => ?_
  rw [← bit_tb, bit_msk]
  exact decide_eq_false fun z => by have := h i z; omega
/-! ### rows of data -/
abbrev Lv := List (Nat × SR)
def pget (l : Lv) (k : Nat) : Option SR := (l.find? fun x => x.1 == k).map (·.2)
def pput (l : Lv) (k : Nat) (v : SR) : Lv := if (pget l k).isSome = true then l.map fun x => if (x.1 == k) = true then (x.1, v) else x else l ++ [(k, v)]
theorem pget_put (l : Lv) (k : Nat) (v : SR) (j : Nat) : pget (pput l k v) j = if j = k then some v else pget l j := by
  unfold pput
  by_cases h : (pget l k).isSome = true
  · rw [if_pos h]
    have hm : ∀ l : Lv, pget (l.map fun x => if (x.1 == k) = true then (x.1, v) else x) j = if j = k then (pget l k).map fun _ => v else pget l j := by
      intro l
      induction l with
      | nil => by_cases e : j = k <;> simp [pget, e]
      | cons x l ih =>
        unfold pget at ih ⊢
        rw [List.map_cons, List.find?_cons, List.find?_cons, List.find?_cons]
        have e1 : (if (x.1 == k) = true then (x.1, v) else x).1 = x.1 := by split <;> rfl
        rw [e1]
        by_cases e : j = k
        · subst e
          rw [if_pos rfl] at ih ⊢
          by_cases e2 : (x.1 == j) = true
          · rw [e2]; simp [e2]
          · have e2 : (x.1 == j) = false := by simpa using e2
            rw [e2]
            exact ih
        · rw [if_neg e] at ih ⊢
          by_cases e2 : (x.1 == j) = true
          · rw [e2]
            have e3 : (x.1 == k) = false := by
              have := eq_of_beq e2
              exact beq_eq_false_iff_ne.mpr (by omega)
            simp [e3]
          · have e2 : (x.1 == j) = false := by simpa using e2
            rw [e2]
            exact ih
    rw [hm]
    by_cases e : j = k
    · rw [if_pos e, if_pos e]
      cases hp : pget l k with
      | none => rw [hp] at h; cases h
      | some y => rfl
    · rw [if_neg e, if_neg e]
  · rw [if_neg h]
    have hn : pget l k = none := by
      cases hp : pget l k with
      | none => rfl
      | some y => rw [hp] at h; exact absurd rfl h
    unfold pget at hn ⊢
    rw [List.find?_append]
    by_cases e : j = k
    · subst e
      rw [if_pos rfl]
      have hn2 : l.find? (fun x => x.1 == j) = none := by
        cases hp : l.find? (fun x => x.1 == j) with
        | none => rfl
        | some y => rw [hp] at hn; cases hn
      rw [hn2]
      simp
    · rw [if_neg e]
      have e3 : (k == j) = false := beq_eq_false_iff_ne.mpr (fun z => e z.symm)
      cases hp : l.find? (fun x => x.1 == j) with
      | some y => rfl
      | none => simp [e3]
theorem pput_len (l : Lv) (k : Nat) (v : SR) : (pput l k v).length ≤ l.length + 1 := by
  unfold pput
  split
  · rw [List.length_map]; omega
  · rw [List.length_append]; simp
def put1 (l : Lv) (k : Nat) (c : SR) : Lv := match pget l k with
  | none => pput l k c
  | some v => if plt c v = true then pput l k c else l
theorem put1_len (l : Lv) (k : Nat) (c : SR) : (put1 l k c).length ≤ l.length + 1 := by
  unfold put1
  split
  · exact pput_len ..
  · split
    · exact pput_len ..
    · omega
theorem put1_get (l : Lv) (k : Nat) (c : SR) (j : Nat) : pget (put1 l k c) j = if j = k then (match pget l k with | none => some c | some v => if plt c v = true then some c else some v) else pget l j := by
  unfold put1
  cases h : pget l k with
  | none => exact pget_put ..
  | some v =>
    simp only
    by_cases h2 : plt c v = true
    · rw [if_pos h2, if_pos h2]; exact pget_put ..
    · rw [if_neg h2, if_neg h2]
      by_cases e : j = k
      · rw [if_pos e, e, h]
      · rw [if_neg e]
def puts (C : List (Nat × SR)) (l : Lv) : Lv := C.foldl (fun l c => put1 l c.1 c.2) l
structure Rel (C : List (Nat × SR)) (l : Lv) : Prop where
  a : ∀ M v, pget l M = some v → (M, v) ∈ C
  b : ∀ c ∈ C, ∃ v, pget l c.1 = some v ∧ plt c.2 v = false
theorem Rel.nil : Rel [] [] := ⟨fun M v h => (by cases h), fun c h => nomatch h⟩
theorem Rel.snoc {C : List (Nat × SR)} {l : Lv} (h : Rel C l) (k : Nat) (c : SR) : Rel (C ++ [(k, c)]) (put1 l k c) := by
  constructor
  · intro M v hv
    rw [put1_get] at hv
    by_cases e : M = k
    · rw [if_pos e] at hv
      subst e
      cases hg : pget l M with
      | none => rw [hg] at hv; cases hv; simp
      | some u =>
        rw [hg] at hv
        simp only at hv
        split at hv
        · cases hv; simp
        · cases hv; exact List.mem_append_left _ (h.a M _ hg)
    · rw [if_neg e] at hv
      exact List.mem_append_left _ (h.a M v hv)
  · intro x hx
    rw [put1_get]
    rcases List.mem_append.mp hx with z | z
    · obtain ⟨v, hv, hp⟩ := h.b x z
      by_cases e : x.1 = k
      · rw [if_pos e]
        rw [e] at hv
        rw [hv]
        simp only
        by_cases h2 : plt c v = true
        · rw [if_pos h2]
          refine ⟨c, rfl, ?_⟩
          cases h3 : plt x.2 c with
          | false => rfl
          | true => rw [plt_trans h3 h2] at hp; cases hp
        · rw [if_neg h2]
          exact ⟨v, rfl, hp⟩
      · rw [if_neg e]
        exact ⟨v, hv, hp⟩
    · rw [List.mem_singleton.mp z, if_pos rfl]
      cases hg : pget l k with
      | none => exact ⟨c, rfl, plt_irr c⟩
      | some v =>
        simp only
        by_cases h2 : plt c v = true
        · rw [if_pos h2]
          exact ⟨c, rfl, plt_irr c⟩
        · rw [if_neg h2]
          exact ⟨v, rfl, by simpa using h2⟩
theorem Rel.puts {C : List (Nat × SR)} {l : Lv} (h : Rel C l) : ∀ D : List (Nat × SR), Rel (C ++ D) (puts D l)
  | [] => by rw [List.append_nil]; exact h
  | (k, c) :: D => by
    have := (h.snoc k c).puts D
    rw [List.append_assoc] at this
    exact this
theorem puts_len : ∀ (D : List (Nat × SR)) (l : Lv), (puts D l).length ≤ l.length + D.length
  | [], l => Nat.le_refl _
  | c :: D, l => by
    have h1 := puts_len D (put1 l c.1 c.2)
    have h2 := put1_len l c.1 c.2
    show (puts D (put1 l c.1 c.2)).length ≤ _
    rw [List.length_cons]
    omega
theorem puts_app (C D : List (Nat × SR)) (l : Lv) : puts (C ++ D) l = puts D (puts C l) := List.foldl_append
/-! ### one job more -/
section
variable {m : Nat} {t w d : List Int} {ps : List (Nat × Nat)}
def allow (ps : List (Nat × Nat)) (M j : Nat) : Bool := !bit M j && (ps.filter fun p => decide (p.2 = j)).all fun p => bit M p.1
def endK (t : List Int) (M : Nat) : Int := (((List.range t.length).filter (bit M)).map (ig t)).sum
def cand (t w d : List Int) (M : Nat) (x : SR) (j : Nat) : SR := (x.1 + ig w j * max 0 (endK t (M ||| 2 ^ j) - ig d j), x.2 ++ [j])
def jobsOf (t : List Int) (ps : List (Nat × Nat)) (M : Nat) (n : Nat) : List Nat := (List.range n).filter (allow ps M)
def candsM (t w d : List Int) (ps : List (Nat × Nat)) (lv : Lv) (M : Nat) : List (Nat × SR) := match pget lv M with
  | none => []
  | some x => (jobsOf t ps M t.length).map fun j => (M ||| 2 ^ j, cand t w d M x j)
@[reducible] def eN (k : Nat) : PyData := .int (k : Int)
def keysL (lv : Lv) : List Nat := srtE eN (lv.map (·.1))
def stepL (t w d : List Int) (ps : List (Nat × Nat)) (lv : Lv) : Lv := puts ((keysL lv).flatMap (candsM t w d ps lv)) []
def lvs (t w d : List Int) (ps : List (Nat × Nat)) : Nat → Lv
  | 0 => [(0, (0, []))]
  | k + 1 => stepL t w d ps (lvs t w d ps k)
def leastK (t w d : List Int) (ps : List (Nat × Nat)) : SR := (pget (lvs t w d ps t.length) (2 ^ t.length - 1)).getD (0, [])
/-- a row of jobs that may be done first -/
structure Row (m : Nat) (t w d : List Int) (ps : List (Nat × Nat)) (k : Nat) (r : List Nat) : Prop where
  len : r.length = k
  nd : r.Nodup
  lt : ∀ j ∈ r, j < m
  ok : okr ps r
def cs (t w d : List Int) (r : List Nat) : SR := (cst t (Fl w d) 0 r, r)
structure Good (m : Nat) (t w d : List Int) (ps : List (Nat × Nat)) (k : Nat) (l : Lv) : Prop where
  a : ∀ M x, pget l M = some x → Row m t w d ps k x.2 ∧ M = msk x.2 ∧ x = cs t w d x.2
  b : ∀ r, Row m t w d ps k r → ∃ y, pget l (msk r) = some y ∧ plt (cs t w d r) y = false
  n : l.length ≤ 6 ^ k
theorem endK_msk (hm : t.length = m) {r : List Nat} (hd : r.Nodup) (hl : ∀ j ∈ r, j < m) : endK t (msk r) = tt t r := by
  unfold endK tt
  refine sum_perm (List.Perm.map _ (perm_of_mem (List.nodup_range.filter _) hd fun x => ?_))
  rw [List.mem_filter, List.mem_range, bit_msk, hm, decide_eq_true_eq]
  exact ⟨fun h => h.2, fun h => ⟨hl x h, h⟩⟩
theorem cs_snoc (r : List Nat) (j : Nat) : cs t w d (r ++ [j]) = (cst t (Fl w d) 0 r + ig w j * max 0 (tt t (r ++ [j]) - ig d j), r ++ [j]) := by
  unfold cs
  rw [cst_app, Int.zero_add, tt_app]
  have e1 : tt t [j] = ig t j := by rw [tt_cons]; show _ + 0 = _; rw [Int.add_zero]
  rw [e1]
  show (_ + (Fl w d j (tt t r + ig t j) + 0), _) = _
  rw [Int.add_zero]
  rfl
theorem allow_iff {r : List Nat} {j : Nat} : allow ps (msk r) j = true ↔ j ∉ r ∧ ∀ p ∈ ps, p.2 = j → p.1 ∈ r := by
  unfold allow
  rw [Bool.and_eq_true, Bool.not_eq_true', bit_msk, decide_eq_false_iff_not, List.all_eq_true]
  constructor
  · rintro ⟨h1, h2⟩
    refine ⟨h1, fun p hp e => ?_⟩
    have := h2 p (List.mem_filter.mpr ⟨hp, decide_eq_true e⟩)
    rw [bit_msk] at this
    exact of_decide_eq_true this
  · rintro ⟨h1, h2⟩
    refine ⟨h1, fun p hp => ?_⟩
    have hp := List.mem_filter.mp hp
    rw [bit_msk]
    exact decide_eq_true (h2 p hp.1 (of_decide_eq_true hp.2))
theorem Row.snoc {k : Nat} {r : List Nat} {j : Nat} (h : Row m t w d ps k r) (hj : j < m) (ha : allow ps (msk r) j = true) : Row m t w d ps (k + 1) (r ++ [j]) := by
  have ha := allow_iff.mp ha
  refine ⟨by rw [List.length_append, h.len]; rfl, ?_, ?_, h.ok.snoc ha.2⟩
  · rw [List.nodup_append]
    refine ⟨h.nd, by simp, ?_⟩
    intro a h1 b h2 e
    rw [List.mem_singleton.mp h2] at e
    exact ha.1 (by rw [← e]; exact h1)
  · intro i hi
    rcases List.mem_append.mp hi with z | z
    · exact h.lt i z
    · rw [List.mem_singleton.mp z]; exact hj
theorem Row.pre {k : Nat} {r : List Nat} {j : Nat} (h : Row m t w d ps (k + 1) (r ++ [j])) : Row m t w d ps k r ∧ j < m ∧ allow ps (msk r) j = true := by
  have hl := h.len
  rw [List.length_append] at hl
  have hd := List.nodup_append.mp h.nd
  refine ⟨⟨by simpa using hl, hd.1, fun i hi => h.lt i (List.mem_append_left _ hi), h.ok.pre⟩, h.lt j (by simp), allow_iff.mpr ⟨fun z => hd.2.2 j z j (by simp) rfl, h.ok.last⟩⟩
theorem keys_mem {l : Lv} {M : Nat} : M ∈ keysL l ↔ ∃ x, pget l M = some x := by
  unfold keysL
  rw [(srtE_perm eN _).mem_iff, List.mem_map]
  constructor
  · rintro ⟨x, hx, rfl⟩
    unfold pget
    cases h : l.find? (fun y => y.1 == x.1) with
    | some y => exact ⟨y.2, rfl⟩
    | none =>
      have := List.find?_eq_none.mp h x hx
      simp at this
  · rintro ⟨x, hx⟩
    unfold pget at hx
    cases h : l.find? (fun y => y.1 == M) with
    | none => rw [h] at hx; cases hx
    | some y => exact ⟨y, List.mem_of_find?_eq_some h, by have := List.find?_some h; simpa using this⟩
theorem Good.step {k : Nat} {l : Lv} (hm : t.length = m) (hm6 : m ≤ 6) (h : Good m t w d ps k l) : Good m t w d ps (k + 1) (stepL t w d ps l) := by
  have hR : Rel ((keysL l).flatMap (candsM t w d ps l)) (stepL t w d ps l) := by
    have := Rel.nil.puts ((keysL l).flatMap (candsM t w d ps l))
    rwa [List.nil_append] at this
  have key : ∀ r j, Row m t w d ps k r → j < m → allow ps (msk r) j = true → cand t w d (msk r) (cs t w d r) j = cs t w d (r ++ [j]) := by
    intro r j hr hj ha
    rw [cs_snoc]
    unfold cand
    rw [← msk_snoc, endK_msk hm (hr.snoc hj ha).nd (hr.snoc hj ha).lt]
    rfl
  constructor
  · intro M v hv
    obtain ⟨N, hN, hC⟩ := List.mem_flatMap.mp (hR.a M v hv)
    unfold candsM at hC
    cases hx : pget l N with
    | none => rw [hx] at hC; exact nomatch hC
    | some x =>
      rw [hx] at hC
      obtain ⟨j, hj, e⟩ := List.mem_map.mp hC
      have hj := List.mem_filter.mp hj
      have hjm : j < m := by rw [← hm]; exact List.mem_range.mp hj.1
      obtain ⟨g1, g2, g3⟩ := h.a N x hx
      have ha : allow ps (msk x.2) j = true := by rw [← g2]; exact hj.2
      have hs := g1.snoc hjm ha
      have ev : v = cs t w d (x.2 ++ [j]) := by
        have : v = cand t w d N x j := (congrArg Prod.snd e).symm
        rw [this, g2]
        conv => lhs; rw [g3]
        exact key x.2 j g1 hjm ha
      have eM : M = msk (x.2 ++ [j]) := by
        rw [msk_snoc, ← g2]
        exact (congrArg Prod.fst e).symm
      rw [ev]
      exact ⟨hs, eM, rfl⟩
  · intro r hr
    rcases List.eq_nil_or_concat r with rfl | ⟨r0, j, rfl⟩
    · have := hr.len; simp at this
    · rw [List.concat_eq_append] at hr ⊢
      obtain ⟨h1, h2, h3⟩ := hr.pre
      obtain ⟨y, hy, hp⟩ := h.b r0 h1
      obtain ⟨g1, g2, g3⟩ := h.a _ y hy
      have ha : allow ps (msk y.2) j = true := by rw [← g2]; exact h3
      have hin : (msk r0 ||| 2 ^ j, cand t w d (msk r0) y j) ∈ (keysL l).flatMap (candsM t w d ps l) := by
        refine List.mem_flatMap.mpr ⟨msk r0, keys_mem.mpr ⟨y, hy⟩, ?_⟩
        unfold candsM
        rw [hy]
        exact List.mem_map.mpr ⟨j, List.mem_filter.mpr ⟨List.mem_range.mpr (by rw [hm]; exact h2), h3⟩, rfl⟩
      obtain ⟨v, hv, hpv⟩ := hR.b _ hin
      refine ⟨v, by rw [msk_snoc]; exact hv, ple_trans ?_ hpv⟩
      show plt _ (cand t w d (msk r0) y j) = false
      rw [cs_snoc]
      unfold cand
      rw [← msk_snoc, endK_msk hm hr.nd hr.lt, plt_add j (by rw [h1.len, g1.len])]
      exact hp
  · refine Nat.le_trans (puts_len _ _) ?_
    rw [List.length_nil, Nat.zero_add, List.length_flatMap]
    have hc : ∀ M, (candsM t w d ps l M).length ≤ 6 := by
      intro M
      unfold candsM
      split
      · exact Nat.zero_le _
      · rw [List.length_map]
        have := List.length_filter_le (allow ps M) (List.range t.length)
        rw [List.length_range] at this
        unfold jobsOf
        omega
    have hs : ∀ ks : List Nat, (ks.map fun M => (candsM t w d ps l M).length).sum ≤ ks.length * 6 := by
      intro ks
      induction ks with
      | nil => exact Nat.le_refl _
      | cons M ks ih => rw [List.map_cons, List.sum_cons, List.length_cons]; have := hc M; omega
    have hk : (keysL l).length = l.length := by
      unfold keysL
      rw [(srtE_perm eN _).length_eq, List.length_map]
    have h2 := hs (keysL l)
    rw [hk] at h2
    have := h.n
    rw [Nat.pow_succ]
    omega
theorem good0 : Good m t w d ps 0 [(0, (0, []))] := by
  constructor
  · intro M x hx
    unfold pget at hx
    by_cases e : M = 0
    · subst e
      have : x = (0, []) := by simpa using hx.symm
      subst this
      exact ⟨⟨rfl, List.nodup_nil, fun j hj => absurd hj (by simp), okr.nil ps⟩, rfl, rfl⟩
    · have e2 : ((0 : Nat) == M) = false := beq_eq_false_iff_ne.mpr (fun z => e z.symm)
      simp [e2] at hx
  · intro r hr
    have : r = [] := List.length_eq_zero_iff.mp hr.len
    subst this
    exact ⟨(0, []), rfl, rfl⟩
  · exact Nat.le_refl _
theorem good (hm : t.length = m) (hm6 : m ≤ 6) : ∀ k, Good m t w d ps k (lvs t w d ps k)
  | 0 => good0
  | k + 1 => (good hm hm6 k).step hm hm6
/-- the least of those that keep the pairs -/
theorem leastK_is (h : Jb m t w d) (hp : PrOk m ps) {o0 : List Nat} (h0 : Ord m o0) (hk0 : kept ps o0 = true) :
    pget (lvs t w d ps t.length) (2 ^ t.length - 1) = some (leastK t w d ps) ∧ ∃ o, Ord m o ∧ kept ps o = true ∧ leastK t w d ps = (lsum t w d o, o) ∧ ∀ o', Ord m o' → kept ps o' = true → plt (lsum t w d o', o') (lsum t w d o, o) = false := by
  have hG := good (w := w) (d := d) (ps := ps) h.tl h.m6 m
  have row : ∀ o, Ord m o → kept ps o = true → Row m t w d ps m o := fun o ho hk => ⟨ho.len, ho.nd, fun j hj => ho.lt hj, (kept_iff ho.nd (hp.mem ho)).mp hk⟩
  obtain ⟨y, hy, _⟩ := hG.b o0 (row o0 h0 hk0)
  rw [msk_full h0] at hy
  have hy2 : pget (lvs t w d ps t.length) (2 ^ t.length - 1) = some y := by rw [h.tl]; exact hy
  have hL : leastK t w d ps = y := by unfold leastK; rw [hy2]; rfl
  obtain ⟨g1, g2, g3⟩ := hG.a _ y hy
  have ho : Ord m y.2 := nodup_perm _ _ g1.nd (fun j hj => List.mem_range.mpr (g1.lt j hj)) (by rw [List.length_range, g1.len]; exact Nat.le_refl _)
  have hcs : ∀ o, Ord m o → cs t w d o = (lsum t w d o, o) := fun o ho => by unfold cs; rw [lsum_cst h.tl ho]
  refine ⟨by rw [hL]; exact hy2, y.2, ho, (kept_iff ho.nd (hp.mem ho)).mpr g1.ok, ?_, ?_⟩
  · rw [hL, ← hcs _ ho]; exact g3
  · intro o' ho' hk'
    obtain ⟨z, hz, hpz⟩ := hG.b o' (row o' ho' hk')
    rw [msk_full ho', hy] at hz
    cases hz
    rw [← hcs _ ho', ← hcs _ ho, ← g3]
    exact hpz
end
end DM.k05
set_option Elab.async false
set_option linter.all false
set_option maxRecDepth 100000
set_option maxHeartbeats 2000000
/-! LD_k05: sums, sure pairs, dues, the bound. -/
namespace DM.k05
open PySem DM
local macro_rules
  | `(tactic| sleep 1) => `(tactic| repeat (first | with_reducible (first | refine wp_seq ?_ | refine wp_con ?_ | refine wp_evs ?_ | refine wp_evs0 ?_ | refine wp_rd_v ?_ | refine wp_rd_f ?_ | refine wp_rds ?_ | refine wp_rds0 ?_ | refine wp_kp_v ?_ | refine wp_kp_f ?_ | refine wp_keeps ?_ | refine wp_keeps0 ?_ | refine wp_bin ?_ | refine wp_idx ?_ | refine wp_blt ?_ | refine wp_cmp ?_ | refine wp_tup ?_ | refine wp_lst ?_ | refine wp_call ?_ | refine wp_and ?_ | refine wp_or ?_ | refine wp_not ?_ | refine wp_ife ?_ | refine wp_slc ?_ | refine wp_asI ?_ | refine wp_neg ?_ | refine IntOk.mk ?_ | refine Tagged.lst ?_ | refine wp_mth ?_ | refine wp_app ?_ | refine wp_tru ?_ | refine o_add ?_ | refine o_sub ?_ | refine cp_eq ?_ | refine cp_ne ?_ | refine cp_lt ?_ | refine cp_gt ?_ | refine cp_le ?_ | refine cp_ge ?_ | refine tr_b ?_ | refine wp_t ?_ | refine wp_f ?_ | refine wp_asg ?_ | refine wp_put_s ?_ | refine wp_retS ?_ | refine wp_retN ?_ | refine wp_ifS ?_ | refine wp_setI ?_ | refine wp_aug ?_ | refine wp_exp ?_ | refine wp_par ?_ | refine wp_sts ?_ | refine wp_sts0 ?_ | refine wp_st_v ?_ | refine wp_st_f ?_ | refine wp_st_s ?_ | refine wp_pa ?_ | refine wp_pa0 ?_ | refine wp_asgT ?_ | refine wp_for ?_ | refine wp_nil ?_ | refine wp_brk ?_ | refine wp_cont ?_ | refine wp_comp ?_ | refine wp_comp2 ?_ | refine wp_tst0 ?_ | refine wp_tst ?_ | refine wp_nm ?_ | refine wp_tu ?_ | refine wp_ts ?_ | refine wp_ts0 ?_ | refine wp_wkvt ?_ | refine wp_wkvl ?_ | refine wp_wkfl ?_ | refine wp_lock0 ?_ | refine wp_wke ?_ | refine g_add ?_ | refine g_sub ?_ | refine wp_bnd ?_ | refine wp_ret ?_ | refine wp_some ?_ | refine b_lenF ?_ | refine b_lenl ?_ | refine b_lent ?_ | refine b_abs ?_ | refine b_int ?_ | refine b_max ?_ | refine b_min ?_ | refine b_sum ?_ | refine b_sumT ?_ | refine b_tup ?_ | refine b_lst ?_ | refine b_lstt ?_) | ((with_reducible apply wp_var_v); exact rfl) | ((with_reducible apply wp_var_o); exact rfl) | ((with_reducible apply wp_rd_s); exact rfl) | ((with_reducible apply wp_rd_sv); exact rfl) | ((with_reducible apply wp_kp_sv); exact rfl) | ((with_reducible apply wp_wks); exact rfl) | ((with_reducible apply Tagged.tup); exact rfl) | ((with_reducible apply wp_lockL); exact rfl) | ((with_reducible apply cp_is); exact rfl) | ((with_reducible apply cp_isn); exact rfl) | ((with_reducible apply o_ixl); exact rfl) | ((with_reducible apply o_ixt); exact rfl) | ((with_reducible apply wp_tt); exact rfl) | ((with_reducible apply wp_ff); exact rfl) | ((with_reducible apply wp_tt); assumption) | ((with_reducible apply wp_ff); assumption) | ((with_reducible refine o_ixF ?_ (by assumption)); intro _) | ((with_reducible apply wp_lockF); exact rfl; (repeat (first | exact SetAt.zero | apply SetAt.succ))) | ((with_reducible apply UnLk.mk); exact rfl; (repeat (first | exact SetAt.zero | apply SetAt.succ))) | ((with_reducible apply Both.mk); (first | exact rfl | exact len60 rfl | assumption)) | ((with_reducible apply b_isaT); exact rfl; (first | exact rfl | assumption)) | ((with_reducible apply b_isaF); exact rfl; (first | exact rfl | assumption)) | ((with_reducible apply wp_appC); exact rfl; (repeat (first | exact SetAt.zero | apply SetAt.succ))) | ((with_reducible apply wp_kp_s); exact rfl; (repeat (first | exact SetAt.zero | apply SetAt.succ))) | ((with_reducible apply wp_put_v); (repeat (first | exact SetAt.zero | apply SetAt.succ)); (first | exact rfl | assumption)) | ((with_reducible apply wp_put_f); (repeat (first | exact SetAt.zero | apply SetAt.succ)); (first | exact rfl | assumption)) | ((with_reducible apply wp_putSl); (repeat (first | exact SetAt.zero | apply SetAt.succ)); (first | exact rfl | assumption)) | ((with_reducible apply wp_setAt); exact rfl; exact rfl; (repeat (first | exact SetAt.zero | apply SetAt.succ)))))
section
variable {cf : Cf} {n : En} {Q : Opd → En → Prop}
theorem wp_andR {p q : Bool} {b : Ex} (hb : p = true → wp (ev cf b) n fun x n1 => x = .v (.bool q) ∧ n1 = n) (k : Q (.v (.bool (p && q))) n) : wp (if p = true then ev cf b else ret (.v (.bool p))) n Q := by
  refine wp_if ?_ ?_
  · intro e
    refine wp_mono (hb e) ?_
    rintro x n2 ⟨rfl, rfl⟩
    rw [e] at k
    exact k
  · intro e
    rw [e] at k ⊢
    exact wp_ret k
theorem wp_orR {p q : Bool} {b : Ex} (hb : p = false → wp (ev cf b) n fun x n1 => x = .v (.bool q) ∧ n1 = n) (k : Q (.v (.bool (p || q))) n) : wp (if p = true then ret (.v (.bool p)) else ev cf b) n Q := by
  refine wp_if ?_ ?_
  · intro e
    rw [e] at k ⊢
    exact wp_ret k
  · intro e
    refine wp_mono (hb e) ?_
    rintro x n2 ⟨rfl, rfl⟩
    rw [e] at k
    exact k
theorem o_nl {xs : List Nat} {i : Int} {k : Nat} {R : PyData → En → Prop} (q : R (.int ((xs.getD k 0 : Nat) : Int)) n) (e : i = (k : Int)) (h : k < xs.length) : wp (opt (idxD (.list (xs.map eN)) (.int i))) n R := by
  subst e
  exact wp_opt (at_map (enc := eN) (d := 0) h) q
@[reducible] def e3Z (a b c : Int) : PyData := .tuple [.int a, .int b, .int c]
theorem lv_e3Z (a b c : Int) : LV 1 (e3Z a b c) := .tup (fun x hx => by
  rcases List.mem_cons.mp hx with rfl | hx
  · exact .int _
  · rcases List.mem_cons.mp hx with rfl | hx
    · exact .int _
    · rw [List.mem_singleton.mp hx]; exact .int _) (len60 rfl)
theorem eqv3 (a b c x y z : Int) : PyData.eqv (e3Z a b c) (e3Z x y z) = (decide (a = x) && (decide (b = y) && decide (c = z))) := by
  simp [PyData.eqv, PyData.eqvAll, beq_dec]
theorem cp_eq3 {a b c x y z : Int} {R : Bool → En → Prop} (q : R (decide (a = x) && (decide (b = y) && decide (c = z))) n) : wp (opt (cmpD .Eq (e3Z a b c) (e3Z x y z))) n R := by
  refine wp_opt (a := (decide (a = x) && (decide (b = y) && decide (c = z)))) ?_ q
  show (if (dok (e3Z a b c) && dok (e3Z x y z)) = true then some (PyData.eqv (e3Z a b c) (e3Z x y z)) else none) = _
  rw [(lv_e3Z a b c).dok (by decide), (lv_e3Z x y z).dok (by decide), Bool.and_self, if_pos rfl, eqv3]
theorem cp_ne3 {a b c x y z : Int} {R : Bool → En → Prop} (q : R (!(decide (a = x) && (decide (b = y) && decide (c = z)))) n) : wp (opt (cmpD .NotEq (e3Z a b c) (e3Z x y z))) n R := by
  refine wp_opt (a := !(decide (a = x) && (decide (b = y) && decide (c = z)))) ?_ q
  show (if (dok (e3Z a b c) && dok (e3Z x y z)) = true then some (!PyData.eqv (e3Z a b c) (e3Z x y z)) else none) = _
  rw [(lv_e3Z a b c).dok (by decide), (lv_e3Z x y z).dok (by decide), Bool.and_self, if_pos rfl, eqv3]
end
section
variable {m : Nat} {t w d : List Int} {o : List Nat}
theorem Jb.ones (h : Jb m t w d) : Jb m t (ones m) d := ⟨h.m6, h.tl, List.length_replicate, h.dl, h.t1, fun v hv => by rw [(List.mem_replicate.mp hv).2]; omega, h.d1⟩
theorem Jb.lt (h : Jb m t w d) (ho : Ord m o) : ∀ j ∈ o, j < t.length := fun j hj => by rw [h.tl]; exact ho.lt hj
/-! ### tardiness, _law_sum -/
theorem r_tard {k : Nat} (h : Jb m t w d) (ho : Ord m o) : run P (k + 2) 10 [.val (tZ t), .val (tZ w), .val (tZ d), .val (tN o)] = .ok false (.int (lsum t w d o)) [.emp, .emp, .emp, .emp] := by
  refine run_wp (n0 := [_, _, _, _, _, _, _]) rfl rfl (Nat.le_of_ble_eq_true rfl) rfl ?_
  have h6 := h.m6
  have htl := h.tl
  sleep 1
  refine wp_callV rfl rfl rfl rfl ?_ (r_ends rfl (h.lt ho) (by omega))
  sleep 1
  refine wp_r1 (b := t.length) ?_ (by rw [List.length_map]) (by omega)
  sleep 1
  refine wp_blockM (T := Nat) (fun j => .int (ig w j * max 0 (ig (ends t o) j - ig d j))) rfl (by repeat (first | exact SetAt.zero | apply SetAt.succ | exact Wiped.nil | apply Wiped.cons)) (fun j hj => ?_) ?_ (by rw [List.length_range, sizeLine_eq]; omega)
  · have hj := List.mem_range.mp hj
    have hw := h.wp (j := j) (by omega)
    have hwl := h.wl
    have hdl := h.dl
    have hel := ends_len t o
    sleep 1
    refine o_igt ?_ rfl (by omega)
    sleep 1
    refine o_igt ?_ rfl (by omega)
    sleep 1
    refine o_igt ?_ rfl (by omega)
    sleep 1
    refine o_mul ?_ (.inl (by omega))
    sleep 1
    exact ⟨rfl, by repeat (first | exact SetAt.zero | apply SetAt.succ | exact Wiped.nil | apply Wiped.cons)⟩
  · rw [map_of (g := PyData.int) (h := fun j => ig w j * max 0 (ig (ends t o) j - ig d j)) (fun _ => rfl)]
    sleep 1
    rfl
theorem r_lsum {k : Nat} (h : Jb m t w d) (ho : Ord m o) : run P (k + 2) 18 [.val (tZ t), .val (tZ w), .val (tZ d), .val (tN o)] = .ok false (.int (lsum t w d o)) [.emp, .emp, .emp, .emp] := by
  refine run_wp (n0 := [_, _, _, _, _, _, _]) rfl rfl (Nat.le_of_ble_eq_true rfl) rfl ?_
  have h6 := h.m6
  have htl := h.tl
  sleep 1
  refine wp_callV rfl rfl rfl rfl ?_ (r_lends rfl (h.lt ho) (by omega))
  sleep 1
  refine wp_r1 (b := t.length) ?_ (by rw [List.length_map]) (by omega)
  sleep 1
  refine wp_blockM (T := Nat) (fun j => .int (ig w j * max 0 (ig (ends t o) j - ig d j))) rfl (by repeat (first | exact SetAt.zero | apply SetAt.succ | exact Wiped.nil | apply Wiped.cons)) (fun j hj => ?_) ?_ (by rw [List.length_range, sizeLine_eq]; omega)
  · have hj := List.mem_range.mp hj
    have hw := h.wp (j := j) (by omega)
    have hwl := h.wl
    have hdl := h.dl
    have hel := ends_len t o
    sleep 1
    refine o_igt ?_ rfl (by omega)
    sleep 1
    refine o_igt ?_ rfl (by omega)
    sleep 1
    refine o_igt ?_ rfl (by omega)
    sleep 1
    refine o_mul ?_ (.inl (by omega))
    sleep 1
    exact ⟨rfl, by repeat (first | exact SetAt.zero | apply SetAt.succ | exact Wiped.nil | apply Wiped.cons)⟩
  · rw [map_of (g := PyData.int) (h := fun j => ig w j * max 0 (ig (ends t o) j - ig d j)) (fun _ => rfl)]
    sleep 1
    rfl
/-! ### by_dues, is_one_late -/
theorem tup2 (ts : List (Int × Nat)) : (ts.map fun x => PyData.int (x.2 : Int)) = (ts.map (·.2)).map fun (k : Nat) => PyData.int (k : Int) := by rw [List.map_map]; rfl
theorem r_dues {k : Nat} (h : Jb m t w d) : run P (k + 1) 9 [.val (tZ d)] = .ok false (tN (edd d m)) [.emp] := by
  refine run_wp (n0 := [_, _, _, _]) rfl rfl (Nat.le_of_ble_eq_true rfl) rfl ?_
  have h6 := h.m6
  have hdl := h.dl
  sleep 1
  refine wp_r1 (b := m) ?_ (by rw [List.length_map, hdl]) (by omega)
  sleep 1
  refine wp_blockM (T := Nat) (fun j => eP (ig d j, j)) rfl (by repeat (first | exact SetAt.zero | apply SetAt.succ | exact Wiped.nil | apply Wiped.cons)) (fun j hj => ?_) ?_ (by rw [List.length_range, sizeLine_eq]; omega)
  · have hj := List.mem_range.mp hj
    sleep 1
    refine o_igt ?_ rfl (by omega)
    sleep 1
    exact ⟨rfl, by repeat (first | exact SetAt.zero | apply SetAt.succ | exact Wiped.nil | apply Wiped.cons)⟩
  · rw [map_of (g := eP) (h := fun j => (ig d j, j)) (fun _ => rfl)]
    sleep 1
    refine b_srt ?_ (sort_eP _)
    sleep 1
    refine wp_blockM (T := Int × Nat) (enc := eP) (fun x => .int (x.2 : Int)) rfl (by repeat (first | exact SetAt.zero | apply SetAt.succ | exact Wiped.nil | apply Wiped.cons)) (fun x hx => ?_) ?_ ?_
    · sleep 1
      exact ⟨rfl, by repeat (first | exact SetAt.zero | apply SetAt.succ | exact Wiped.nil | apply Wiped.cons)⟩
    · rw [tup2]
      sleep 1
      rfl
    · rw [(srtE_perm eP _).length_eq, List.length_map, List.length_range, sizeLine_eq]; omega
theorem r_one {k : Nat} (h : Jb m t w d) : run P (k + 2) 14 [.val (tZ t), .val (tZ d)] = .ok false (.bool (decide ((late t d m).length < 2))) [.emp, .emp] := by
  refine run_wp (n0 := [_, _, _, _, _]) rfl rfl (Nat.le_of_ble_eq_true rfl) rfl ?_
  have h6 := h.m6
  have htl := h.tl
  have hdl := h.dl
  have hE : Ord m (edd d m) := edd_ord
  have hEl := hE.len
  have hel := ends_len t (edd d m)
  sleep 1
  refine wp_callV rfl rfl rfl rfl ?_ (r_dues h)
  sleep 1
  refine wp_callV rfl rfl rfl rfl ?_ (r_ends rfl (h.lt hE) (by omega))
  sleep 1
  refine wp_r1 (b := m) ?_ (by rw [List.length_map, htl]) (by omega)
  sleep 1
  refine wp_blockF (T := Nat) (fun j => decide (ig (ends t (edd d m)) j > ig d j)) (fun j => .int (j : Int)) rfl (by repeat (first | exact SetAt.zero | apply SetAt.succ | exact Wiped.nil | apply Wiped.cons)) (fun j hj => ?_) ?_ (by rw [List.length_range, sizeLine_eq]; omega)
  · have hj := List.mem_range.mp hj
    sleep 1
    refine o_igt ?_ rfl (by omega)
    sleep 1
    refine o_igt ?_ rfl (by omega)
    sleep 1
    refine wp_if ?_ ?_
    · intro e
      sleep 1
      exact ⟨by rw [if_pos e], by repeat (first | exact SetAt.zero | apply SetAt.succ | exact Wiped.nil | apply Wiped.cons)⟩
    · intro e
      sleep 1
      exact ⟨by rw [e]; rfl, by repeat (first | exact SetAt.zero | apply SetAt.succ | exact Wiped.nil | apply Wiped.cons)⟩
  · sleep 1
    rw [List.length_map]
    have e : decide ((((late t d m).length : Nat) : Int) < 2) = decide ((late t d m).length < 2) := decide_eq_decide.mpr (by omega)
    show finish _ (.ok (.ret (.v (.bool (decide ((((late t d m).length : Nat) : Int) < 2))))) _) = _
    rw [e]
    rfl
/-! ### sure_pairs -/
def surA (m : Nat) (t w d : List Int) (a n : Nat) : List (Nat × Nat) := ((List.range n).filter fun b => surB t w d a b).map fun b => (a, b)
theorem surA_succ (a n : Nat) : surA m t w d a (n + 1) = surA m t w d a n ++ (if surB t w d a n = true then [(a, n)] else []) := by
  unfold surA
  rw [List.range_succ, List.filter_append, List.map_append, List.filter_cons]
  by_cases h : surB t w d a n = true
  · rw [if_pos h, if_pos h]; rfl
  · rw [if_neg h, if_neg h]; rfl
def surN (m : Nat) (t w d : List Int) (n : Nat) : List (Nat × Nat) := (List.range n).flatMap fun a => surA m t w d a m
theorem surN_succ (n : Nat) : surN m t w d (n + 1) = surN m t w d n ++ surA m t w d n m := by
  unfold surN
  rw [List.range_succ, List.flatMap_append]
  simp
theorem surA_len (a n : Nat) : (surA m t w d a n).length ≤ n := by
  unfold surA
  rw [List.length_map]
  have := List.length_filter_le (fun b => surB t w d a b) (List.range n)
  rwa [List.length_range] at this
theorem surN_len (n : Nat) : (surN m t w d n).length ≤ n * m := by
  induction n with
  | zero => exact Nat.zero_le _
  | succ n ih =>
    rw [surN_succ, List.length_append, Nat.succ_mul]
    have := surA_len (m := m) (t := t) (w := w) (d := d) n m
    omega
theorem natne (a b : Nat) : decide ((a : Int) ≠ (b : Int)) = decide (a ≠ b) := decide_eq_decide.mpr (by omega)
theorem natlt (a b : Nat) : decide ((a : Int) < (b : Int)) = decide (a < b) := decide_eq_decide.mpr (by omega)
theorem r_sure {k : Nat} (h : Jb m t w d) : run P (k + 1) 13 [.val (tZ t), .val (tZ w), .val (tZ d)] = .ok false (tP (sur m t w d)) [.emp, .emp, .emp] := by
  refine run_wp (n0 := [_, _, _, _, _, _, _]) rfl rfl (Nat.le_of_ble_eq_true rfl) rfl ?_
  have h6 := h.m6
  have htl := h.tl
  have hwl := h.wl
  have hdl := h.dl
  sleep 1
  refine wp_r1 (b := m) ?_ (by rw [List.length_map, htl]) (by omega)
  sleep 1
  refine wp_forN (fun a n' => ∃ x y z, n' = [.val (tZ t), .val (tZ w), .val (tZ d), .own false false (.list ((surN m t w d a).map eN2)), x, y, z] ∧ openS x = true ∧ openS y = true ∧ openS z = true) ⟨_, _, _, rfl, rfl, rfl, rfl⟩ ?_ ?_
  · rintro a n' ha ⟨x, y, z, rfl, ox, oy, oz⟩
    have hN := surN_len (m := m) (t := t) (w := w) (d := d) a
    have hN2 : a * m ≤ 36 := Nat.mul_le_mul (show a ≤ 6 by omega) h6
    sleep 1
    refine wp_r1 (b := m) ?_ (by rw [List.length_map, htl]) (by omega)
    sleep 1
    refine wp_forN (fun b n' => ∃ y z, n' = [.val (tZ t), .val (tZ w), .val (tZ d), .own false false (.list ((surN m t w d a ++ surA m t w d a b).map eN2)), .val (.int (a : Int)), y, z] ∧ openS y = true ∧ openS z = true) ⟨_, _, by rw [show surA m t w d a 0 = [] from rfl, List.append_nil], oy, oz⟩ ?_ ?_
    · rintro b n' hb ⟨y, z, rfl, oy, oz⟩
      have hA := surA_len (m := m) (t := t) (w := w) (d := d) a b
      sleep 1
      rw [natne]
      refine wp_andR (q := decide (ig t a ≤ ig t b) && (decide (ig w a ≥ ig w b) && decide (ig d a ≤ ig d b))) (fun _ => ?_) ?_
      · sleep 1
        refine o_igt ?_ rfl (by omega)
        sleep 1
        refine o_igt ?_ rfl (by omega)
        sleep 1
        refine wp_andR (fun _ => ?_) ⟨rfl, rfl⟩
        sleep 1
        refine o_igt ?_ rfl (by omega)
        sleep 1
        refine o_igt ?_ rfl (by omega)
        sleep 1
        refine wp_andR (fun _ => ?_) ⟨rfl, rfl⟩
        sleep 1
        refine o_igt ?_ rfl (by omega)
        sleep 1
        refine o_igt ?_ rfl (by omega)
        sleep 1
        exact ⟨rfl, rfl⟩
      · sleep 1
        refine wp_if ?_ ?_
        · intro e
          have e : surL t w d a b = true := e
          sleep 1
          refine o_igt ?_ rfl (by omega)
          sleep 1
          refine o_igt ?_ rfl (by omega)
          sleep 1
          refine o_igt ?_ rfl (by omega)
          sleep 1
          refine o_igt ?_ rfl (by omega)
          sleep 1
          refine o_igt ?_ rfl (by omega)
          sleep 1
          refine o_igt ?_ rfl (by omega)
          sleep 1
          refine cp_eq3 ?_
          sleep 1
          refine wp_orR (p := !alik t w d a b) (q := decide (a < b)) (fun _ => ?_) ?_
          · sleep 1
            exact ⟨by rw [natlt], rfl⟩
          · sleep 1
            refine wp_if ?_ ?_
            · intro e2
              have e3 : surB t w d a b = true := by unfold surB; rw [e, e2]; rfl
              sleep 1
              · refine ⟨.val (.int (b : Int)), .val (.bool (alik t w d a b)), ?_, rfl, rfl⟩
                rw [surA_succ, if_pos e3, ← List.append_assoc, List.map_append (l₂ := [(a, b)])]
                rfl
              · rw [List.length_map, List.length_append, sizeLine_eq]; omega
            · intro e2
              have e3 : surB t w d a b = false := by unfold surB; rw [e, e2]; rfl
              sleep 1
              refine ⟨.val (.int (b : Int)), .val (.bool (alik t w d a b)), ?_, rfl, rfl⟩
              rw [surA_succ, e3, if_neg (by decide), List.append_nil]
              rfl
        · intro e
          have e : surL t w d a b = false := e
          have e3 : surB t w d a b = false := by unfold surB; rw [e]; rfl
          sleep 1
          refine ⟨.val (.int (b : Int)), z, ?_, rfl, oz⟩
          rw [surA_succ, e3, if_neg (by decide), List.append_nil]
    · rintro n' ⟨y, z, rfl, oy, oz⟩
      sleep 1
      exact ⟨_, _, _, by rw [surN_succ], rfl, oy, oz⟩
  · rintro n' ⟨x, y, z, rfl, ox, oy, oz⟩
    sleep 1
    rfl
end
end DM.k05
set_option Elab.async false
set_option linter.all false
set_option maxRecDepth 100000
set_option maxHeartbeats 4000000
/-! LE_k05: least sums by sets, walked; the bound. -/
namespace DM.k05
open PySem DM
local macro_rules
  | `(tactic| sleep 1) => `(tactic| repeat (first | with_reducible (first | refine wp_seq ?_ | refine wp_con ?_ | refine wp_evs ?_ | refine wp_evs0 ?_ | refine wp_rd_v ?_ | refine wp_rd_f ?_ | refine wp_rds ?_ | refine wp_rds0 ?_ | refine wp_kp_v ?_ | refine wp_kp_f ?_ | refine wp_keeps ?_ | refine wp_keeps0 ?_ | refine wp_bin ?_ | refine wp_idx ?_ | refine wp_blt ?_ | refine wp_cmp ?_ | refine wp_tup ?_ | refine wp_lst ?_ | refine wp_call ?_ | refine wp_and ?_ | refine wp_or ?_ | refine wp_not ?_ | refine wp_ife ?_ | refine wp_slc ?_ | refine wp_asI ?_ | refine wp_neg ?_ | refine IntOk.mk ?_ | refine Tagged.lst ?_ | refine wp_mth ?_ | refine wp_app ?_ | refine wp_tru ?_ | refine o_add ?_ | refine o_sub ?_ | refine cp_eq ?_ | refine cp_ne ?_ | refine cp_lt ?_ | refine cp_gt ?_ | refine cp_le ?_ | refine cp_ge ?_ | refine tr_b ?_ | refine wp_t ?_ | refine wp_f ?_ | refine wp_asg ?_ | refine wp_put_s ?_ | refine wp_retS ?_ | refine wp_retN ?_ | refine wp_ifS ?_ | refine wp_setI ?_ | refine wp_aug ?_ | refine wp_exp ?_ | refine wp_par ?_ | refine wp_sts ?_ | refine wp_sts0 ?_ | refine wp_st_v ?_ | refine wp_st_f ?_ | refine wp_st_s ?_ | refine wp_pa ?_ | refine wp_pa0 ?_ | refine wp_asgT ?_ | refine wp_for ?_ | refine wp_nil ?_ | refine wp_brk ?_ | refine wp_cont ?_ | refine wp_comp ?_ | refine wp_comp2 ?_ | refine wp_tst0 ?_ | refine wp_tst ?_ | refine wp_nm ?_ | refine wp_tu ?_ | refine wp_ts ?_ | refine wp_ts0 ?_ | refine wp_wkvt ?_ | refine wp_wkvl ?_ | refine wp_wkfl ?_ | refine wp_lock0 ?_ | refine wp_wke ?_ | refine g_add ?_ | refine g_sub ?_ | refine wp_bnd ?_ | refine wp_ret ?_ | refine wp_some ?_ | refine b_lenF ?_ | refine b_lenl ?_ | refine b_lent ?_ | refine b_abs ?_ | refine b_int ?_ | refine b_max ?_ | refine b_min ?_ | refine b_sum ?_ | refine b_sumT ?_ | refine b_tup ?_ | refine b_lst ?_ | refine b_lstt ?_) | ((with_reducible apply wp_var_v); exact rfl) | ((with_reducible apply wp_var_o); exact rfl) | ((with_reducible apply wp_rd_s); exact rfl) | ((with_reducible apply wp_rd_sv); exact rfl) | ((with_reducible apply wp_kp_sv); exact rfl) | ((with_reducible apply wp_wks); exact rfl) | ((with_reducible apply Tagged.tup); exact rfl) | ((with_reducible apply wp_lockL); exact rfl) | ((with_reducible apply cp_is); exact rfl) | ((with_reducible apply cp_isn); exact rfl) | ((with_reducible apply o_ixl); exact rfl) | ((with_reducible apply o_ixt); exact rfl) | ((with_reducible apply wp_tt); exact rfl) | ((with_reducible apply wp_ff); exact rfl) | ((with_reducible apply wp_tt); assumption) | ((with_reducible apply wp_ff); assumption) | ((with_reducible refine o_ixF ?_ (by assumption)); intro _) | ((with_reducible apply wp_lockF); exact rfl; (repeat (first | exact SetAt.zero | apply SetAt.succ))) | ((with_reducible apply UnLk.mk); exact rfl; (repeat (first | exact SetAt.zero | apply SetAt.succ))) | ((with_reducible apply Both.mk); (first | exact rfl | exact len60 rfl | assumption)) | ((with_reducible apply b_isaT); exact rfl; (first | exact rfl | assumption)) | ((with_reducible apply b_isaF); exact rfl; (first | exact rfl | assumption)) | ((with_reducible apply wp_appC); exact rfl; (repeat (first | exact SetAt.zero | apply SetAt.succ))) | ((with_reducible apply wp_kp_s); exact rfl; (repeat (first | exact SetAt.zero | apply SetAt.succ))) | ((with_reducible apply wp_put_v); (repeat (first | exact SetAt.zero | apply SetAt.succ)); (first | exact rfl | assumption)) | ((with_reducible apply wp_put_f); (repeat (first | exact SetAt.zero | apply SetAt.succ)); (first | exact rfl | assumption)) | ((with_reducible apply wp_putSl); (repeat (first | exact SetAt.zero | apply SetAt.succ)); (first | exact rfl | assumption)) | ((with_reducible apply wp_setAt); exact rfl; exact rfl; (repeat (first | exact SetAt.zero | apply SetAt.succ)))))
/-! ### (sum, row) as data -/
@[reducible] def eB (x : SR) : PyData := .tuple [.int x.1, tN x.2]
@[reducible] def eKV (x : Nat × SR) : PyData × PyData := (.int (x.1 : Int), eB x.2)
theorem lv_eB {x : SR} (h : x.2.length ≤ sizeLine) : LV 2 (eB x) := .tup (fun y hy => by
  rcases List.mem_cons.mp hy with rfl | hy
  · exact .int _
  · rw [List.mem_singleton.mp hy]; exact lv_tN h) (len60 rfl)
theorem notFL_kv (l : Lv) : notFL (l.map eKV) = true := by cases l <;> rfl
theorem keyEq_kv (x : Nat × SR) (k : Nat) : keyEq (eKV x) (k : Int) = (x.1 == k) := by
  show ((x.1 : Int) == (k : Int)) = _
  by_cases h : x.1 = k
  · rw [h]; simp
  · rw [beq_eq_false_iff_ne.mpr h]
    exact beq_eq_false_iff_ne.mpr (by omega)
theorem dget_kv (l : Lv) (k : Nat) : dget (l.map eKV) (k : Int) = (pget l k).map eB := by
  unfold dget pget
  induction l with
  | nil => rfl
  | cons x l ih =>
    rw [List.map_cons, List.find?_cons, List.find?_cons, keyEq_kv]
    cases h : (x.1 == k) with
    | true => rfl
    | false => exact ih
theorem dput_kv (l : Lv) (k : Nat) (v : SR) : dput (l.map eKV) (k : Int) (eB v) = (pput l k v).map eKV := by
  unfold dput pput
  rw [dget_kv]
  have e : ((pget l k).map eB).isSome = (pget l k).isSome := by cases pget l k <;> rfl
  rw [e]
  by_cases h : (pget l k).isSome = true
  · rw [if_pos h, if_pos h, List.map_map, List.map_map]
    refine List.map_congr_left fun x _ => ?_
    show (if keyEq (eKV x) (k : Int) = true then ((eKV x).1, eB v) else eKV x) = eKV (if (x.1 == k) = true then (x.1, v) else x)
    rw [keyEq_kv]
    by_cases h2 : (x.1 == k) = true
    · rw [if_pos h2, if_pos h2]
    · rw [if_neg h2, if_neg h2]
  · rw [if_neg h, if_neg h, List.map_append]
    rfl
theorem dl_row (xs ys : List Int) : W.dataLt (.tuple (xs.map .int)) (.tuple (ys.map .int)) = decide (xs < ys) := (W.dataLt_tuple _ _).trans (W.dataLt_ints xs ys)
theorem llt_dec : ∀ r s : List Nat, decide ((r.map fun (k : Nat) => (k : Int)) < (s.map fun (k : Nat) => (k : Int))) = llt r s
  | [], [] => by simp [llt]
  | [], y :: s => by simp [llt]
  | x :: r, [] => by simp [llt]
  | x :: r, y :: s => by
    rw [llt, ← llt_dec r s, List.map_cons, List.map_cons]
    by_cases h : x = y
    · subst h
      rw [if_pos rfl]
      simp [List.cons_lt_cons_iff]
    · rw [if_neg h]
      refine decide_eq_decide.mpr ?_
      rw [List.cons_lt_cons_iff]
      omega
theorem rowLt_N (r s : List Nat) : W.dataLt (tN r) (tN s) = llt r s := by
  have e : ∀ r : List Nat, (r.map fun (k : Nat) => PyData.int (k : Int)) = (r.map fun (k : Nat) => (k : Int)).map .int := fun r => by rw [List.map_map]; rfl
  show W.dataLt (.tuple (r.map _)) (.tuple (s.map _)) = _
  rw [e r, e s, dl_row, llt_dec]
theorem eqv_tN : ∀ r s : List Nat, PyData.eqv (tN r) (tN s) = decide (r = s)
  | [], [] => rfl
  | [], y :: s => by simp [PyData.eqv, PyData.eqvAll]
  | x :: r, [] => by simp [PyData.eqv, PyData.eqvAll]
  | x :: r, y :: s => by
    have ih := eqv_tN r s
    simp only [PyData.eqv, PyData.eqvAll, List.map_cons] at ih ⊢
    rw [ih, beq_dec]
    by_cases h : x = y <;> by_cases h2 : r = s <;> simp [h, h2]
    all_goals omega
theorem alikeN : ∀ a b : List Nat, W.alikeAll (a.map fun (k : Nat) => PyData.int (k : Int)) (b.map fun (k : Nat) => PyData.int (k : Int)) = true
  | [], [] => rfl
  | [], _ :: _ => by simp [W.alikeAll]
  | _ :: _, [] => by simp [W.alikeAll]
  | a :: as, b :: bs => by
    simp only [List.map_cons, W.alikeAll]
    rw [alikeN as bs]
    simp [W.alike]
theorem alike_tN (a b : List Nat) : W.alike (tN a) (tN b) = true := by
  show W.alikeAll _ _ = true
  exact alikeN a b
theorem lt_eB (x y : SR) : W.dataLt (eB x) (eB y) = plt x y := by
  rw [W.dataLt_pair (by simp [W.alike]) (alike_tN _ _), eqv_tN, rowLt_N, W.dataLt_int]
  unfold plt
  simp only [PyData.eqv, beq_iff_eq, decide_eq_true_eq]
  by_cases h : x.1 = y.1
  · rw [if_pos h, if_pos h]
    by_cases h2 : x.2 = y.2
    · rw [if_pos h2, h2, llt_irr]
    · rw [if_neg h2]
  · rw [if_neg h, if_neg h]
end DM.k05
set_option Elab.async false
set_option linter.all false
set_option maxRecDepth 100000
set_option maxHeartbeats 4000000
/-! LF_k05: least sums by sets, walked. -/
namespace DM.k05
open PySem DM
local macro_rules
  | `(tactic| sleep 1) => `(tactic| repeat (first | with_reducible (first | refine wp_seq ?_ | refine wp_con ?_ | refine wp_evs ?_ | refine wp_evs0 ?_ | refine wp_rd_v ?_ | refine wp_rd_f ?_ | refine wp_rds ?_ | refine wp_rds0 ?_ | refine wp_kp_v ?_ | refine wp_kp_f ?_ | refine wp_keeps ?_ | refine wp_keeps0 ?_ | refine wp_bin ?_ | refine wp_idx ?_ | refine wp_blt ?_ | refine wp_cmp ?_ | refine wp_tup ?_ | refine wp_lst ?_ | refine wp_call ?_ | refine wp_and ?_ | refine wp_or ?_ | refine wp_not ?_ | refine wp_ife ?_ | refine wp_slc ?_ | refine wp_asI ?_ | refine wp_neg ?_ | refine IntOk.mk ?_ | refine Tagged.lst ?_ | refine wp_mth ?_ | refine wp_app ?_ | refine wp_tru ?_ | refine o_add ?_ | refine o_sub ?_ | refine cp_eq ?_ | refine cp_ne ?_ | refine cp_lt ?_ | refine cp_gt ?_ | refine cp_le ?_ | refine cp_ge ?_ | refine tr_b ?_ | refine wp_t ?_ | refine wp_f ?_ | refine wp_asg ?_ | refine wp_put_s ?_ | refine wp_retS ?_ | refine wp_retN ?_ | refine wp_ifS ?_ | refine wp_setI ?_ | refine wp_aug ?_ | refine wp_exp ?_ | refine wp_par ?_ | refine wp_sts ?_ | refine wp_sts0 ?_ | refine wp_st_v ?_ | refine wp_st_f ?_ | refine wp_st_s ?_ | refine wp_pa ?_ | refine wp_pa0 ?_ | refine wp_asgT ?_ | refine wp_for ?_ | refine wp_nil ?_ | refine wp_brk ?_ | refine wp_cont ?_ | refine wp_comp ?_ | refine wp_comp2 ?_ | refine wp_tst0 ?_ | refine wp_tst ?_ | refine wp_nm ?_ | refine wp_tu ?_ | refine wp_ts ?_ | refine wp_ts0 ?_ | refine wp_wkvt ?_ | refine wp_wkvl ?_ | refine wp_wkfl ?_ | refine wp_lock0 ?_ | refine wp_wke ?_ | refine g_add ?_ | refine g_sub ?_ | refine wp_bnd ?_ | refine wp_ret ?_ | refine wp_some ?_ | refine b_lenF ?_ | refine b_lenl ?_ | refine b_lent ?_ | refine b_abs ?_ | refine b_int ?_ | refine b_max ?_ | refine b_min ?_ | refine b_sum ?_ | refine b_sumT ?_ | refine b_tup ?_ | refine b_lst ?_ | refine b_lstt ?_) | ((with_reducible apply wp_var_v); exact rfl) | ((with_reducible apply wp_var_o); exact rfl) | ((with_reducible apply wp_rd_s); exact rfl) | ((with_reducible apply wp_rd_sv); exact rfl) | ((with_reducible apply wp_kp_sv); exact rfl) | ((with_reducible apply wp_wks); exact rfl) | ((with_reducible apply Tagged.tup); exact rfl) | ((with_reducible apply wp_lockL); exact rfl) | ((with_reducible apply cp_is); exact rfl) | ((with_reducible apply cp_isn); exact rfl) | ((with_reducible apply o_ixl); exact rfl) | ((with_reducible apply o_ixt); exact rfl) | ((with_reducible apply wp_tt); exact rfl) | ((with_reducible apply wp_ff); exact rfl) | ((with_reducible apply wp_tt); assumption) | ((with_reducible apply wp_ff); assumption) | ((with_reducible refine o_ixF ?_ (by assumption)); intro _) | ((with_reducible apply wp_lockF); exact rfl; (repeat (first | exact SetAt.zero | apply SetAt.succ))) | ((with_reducible apply UnLk.mk); exact rfl; (repeat (first | exact SetAt.zero | apply SetAt.succ))) | ((with_reducible apply Both.mk); (first | exact rfl | exact len60 rfl | assumption)) | ((with_reducible apply b_isaT); exact rfl; (first | exact rfl | assumption)) | ((with_reducible apply b_isaF); exact rfl; (first | exact rfl | assumption)) | ((with_reducible apply wp_appC); exact rfl; (repeat (first | exact SetAt.zero | apply SetAt.succ))) | ((with_reducible apply wp_kp_s); exact rfl; (repeat (first | exact SetAt.zero | apply SetAt.succ))) | ((with_reducible apply wp_put_v); (repeat (first | exact SetAt.zero | apply SetAt.succ)); (first | exact rfl | assumption)) | ((with_reducible apply wp_put_f); (repeat (first | exact SetAt.zero | apply SetAt.succ)); (first | exact rfl | assumption)) | ((with_reducible apply wp_putSl); (repeat (first | exact SetAt.zero | apply SetAt.succ)); (first | exact rfl | assumption)) | ((with_reducible apply wp_setAt); exact rfl; exact rfl; (repeat (first | exact SetAt.zero | apply SetAt.succ)))))
section
variable {m : Nat} {t w d : List Int} {ps : List (Nat × Nat)}
theorem o_lv {n : En} {R : PyData → En → Prop} {l : Lv} {k : Nat} {i : Int} {x : SR} (q : R (eB x) n) (e : pget l k = some x) (ei : i = (k : Int)) : wp (opt (idxD (.dict (l.map eKV)) (.int i))) n R := by
  subst ei
  exact o_dget q (by rw [dget_kv, e]; rfl) (notFL_kv l)
theorem cp_lvn {n : En} {R : Bool → En → Prop} {l : Lv} {k : Nat} (q : R (!(pget l k).isSome) n) : wp (opt (cmpD .NotIn (.int (k : Int)) (.dict (l.map eKV)))) n R := by
  refine cp_dnotin ?_ (notFL_kv l)
  rw [dget_kv]
  have e : ((pget l k).map eB).isSome = (pget l k).isSome := by cases pget l k <;> rfl
  rw [e]
  exact q
theorem cp_ltB {n : En} {R : Bool → En → Prop} {x y : SR} (q : R (plt x y) n) (hx : x.2.length ≤ sizeLine) (hy : y.2.length ≤ sizeLine) : wp (opt (cmpD .Lt (eB x) (eB y))) n R := by
  refine wp_opt (a := plt x y) ?_ q
  have ok : ltOk (eB x) (eB y) = true := by
    unfold ltOk
    rw [(lv_eB hx).dok (by decide), (lv_eB hy).dok (by decide)]
    have : W.alike (eB x) (eB y) = true := by simp [W.alike, W.alikeAll, alikeN]
    rw [this]
    rfl
  show (if ltOk (eB x) (eB y) = true then some (W.dataLt (eB x) (eB y)) else none) = _
  rw [if_pos ok, lt_eB]
theorem b_keys {n : En} {R : Opd → En → Prop} {l : Lv} (q : R (.f (.list ((l.map (·.1)).map eN))) n) : wp (opt (bltD .list [.dict (l.map eKV)])) n R := by
  refine b_dlist ?_ (notFL_kv l)
  rw [List.map_map] at q ⊢
  exact q
theorem bits_allow (x j : Nat) : (decide (((x / 2 ^ j % 2 : Nat) : Int) = 0) && ((ps.filter fun p => decide (p.2 = j)).map fun p => bit x p.1).all id) = allow ps x j := by
  unfold allow
  have e : decide (((x / 2 ^ j % 2 : Nat) : Int) = 0) = !bit x j := by
    unfold bit
    have h2 : x / 2 ^ j % 2 < 2 := Nat.mod_lt _ (by decide)
    by_cases h : x / 2 ^ j % 2 = 1
    · rw [h]; rfl
    · have h0 : x / 2 ^ j % 2 = 0 := by omega
      rw [h0]; rfl
  rw [e, List.all_map]
  rfl
theorem bit_int (x j : Nat) : decide (((x / 2 ^ j % 2 : Nat) : Int) = 1) = bit x j := decide_eq_decide.mpr (by omega)
theorem nateq (a b : Nat) : decide ((a : Int) = (b : Int)) = decide (a = b) := decide_eq_decide.mpr (by omega)
theorem cands_len (hm : t.length ≤ 6) (l : Lv) (M : Nat) : (candsM t w d ps l M).length ≤ 6 := by
  unfold candsM
  split
  · exact Nat.zero_le _
  · rw [List.length_map]
    have := List.length_filter_le (allow ps M) (List.range t.length)
    rw [List.length_range] at this
    unfold jobsOf
    omega
theorem flat_len (hm : t.length ≤ 6) (l : Lv) : ∀ ks : List Nat, (ks.flatMap (candsM t w d ps l)).length ≤ ks.length * 6
  | [] => Nat.le_refl _
  | M :: ks => by
    rw [List.flatMap_cons, List.length_append, List.length_cons]
    have := cands_len (w := w) (d := d) (ps := ps) hm l M
    have := flat_len hm l ks
    omega
def candJ (t w d : List Int) (ps : List (Nat × Nat)) (M : Nat) (x : SR) (n : Nat) : List (Nat × SR) := (jobsOf t ps M n).map fun j => (M ||| 2 ^ j, cand t w d M x j)
theorem candJ_succ (M : Nat) (x : SR) (n : Nat) : candJ t w d ps M x (n + 1) = candJ t w d ps M x n ++ (if allow ps M n = true then [(M ||| 2 ^ n, cand t w d M x n)] else []) := by
  unfold candJ jobsOf
  rw [List.range_succ, List.filter_append, List.map_append, List.filter_cons]
  by_cases h : allow ps M n = true
  · rw [if_pos h, if_pos h]; rfl
  · rw [if_neg h, if_neg h]; rfl
theorem candJ_len (M : Nat) (x : SR) (n : Nat) : (candJ t w d ps M x n).length ≤ n := by
  unfold candJ jobsOf
  rw [List.length_map]
  have := List.length_filter_le (allow ps M) (List.range n)
  rwa [List.length_range] at this
theorem candM_len {l : Lv} {M : Nat} {c : Nat × SR} (hl : ∀ M x, pget l M = some x → x.2.length ≤ 6) (h : c ∈ candsM t w d ps l M) : c.2.2.length ≤ 1000 := by
  unfold candsM at h
  cases hx : pget l M with
  | none => rw [hx] at h; exact nomatch h
  | some x =>
    rw [hx] at h
    obtain ⟨j, _, rfl⟩ := List.mem_map.mp h
    have := hl M x hx
    show (x.2 ++ [j]).length ≤ 1000
    rw [List.length_append]
    simp
    omega
theorem pow6 {k : Nat} (h : k ≤ 6) : 6 ^ k ≤ 46656 := Nat.pow_le_pow_right (by decide) h
theorem r_lkept {k : Nat} (h : Jb m t w d) (hp : PrOk m ps) (hpl : ps.length ≤ 1000) {o0 : List Nat} (h0 : Ord m o0) (hk0 : kept ps o0 = true) : run P (k + 1) 12 [.val (tZ t), .val (tZ w), .val (tZ d), .val (tP ps)] = .ok false (eB (leastK t w d ps)) [.emp, .emp, .emp, .emp] := by
  refine run_wp (n0 := [_, _, _, _, _, _, _, _, _, _, _, _, _, _, _, _, _, _, _]) rfl rfl (Nat.le_of_ble_eq_true rfl) rfl ?_
  have h6 := h.m6
  have htl := h.tl
  have hwl := h.wl
  have hdl := h.dl
  sleep 1
  refine b_dict1 ?_ rfl
  sleep 1
  rw [List.length_map, htl]
  refine wp_r1 (b := m) ?_ rfl (by omega)
  sleep 1
  refine wp_forN (fun z n' => ∃ s5 x6 x7 x8 x9 x10 x11 x12 x13 x14, n' = [.val (tZ t), .val (tZ w), .val (tZ d), .val (tP ps), .val (.int (m : Int)), s5, x6, x7, x8, x9, x10, x11, x12, x13, x14, .emp, .emp, .emp, .emp] ∧ (s5 = .own false false (.dict ((lvs t w d ps z).map eKV)) ∨ s5 = .val (.dict ((lvs t w d ps z).map eKV))) ∧ openS x6 = true ∧ openS x7 = true ∧ openS x8 = true ∧ openS x9 = true ∧ openS x10 = true ∧ openS x11 = true ∧ openS x12 = true ∧ openS x13 = true ∧ openS x14 = true)
    ⟨_, _, _, _, _, _, _, _, _, _, rfl, .inl rfl, rfl, rfl, rfl, rfl, rfl, rfl, rfl, rfl, rfl⟩ ?_ ?_
  · rintro z n' hz ⟨s5, x6, x7, x8, x9, x10, x11, x12, x13, x14, rfl, hs5, o6, o7, o8, o9, o10, o11, o12, o13, o14⟩
    have hG := good (w := w) (d := d) (ps := ps) htl h6 z
    have hlvn : (lvs t w d ps z).length ≤ 46656 := Nat.le_trans hG.n (pow6 (by omega))
    have hkl : (keysL (lvs t w d ps z)).length ≤ 46656 := by
      unfold keysL
      rw [(srtE_perm eN _).length_eq, List.length_map]
      exact hlvn
    rcases hs5 with rfl | rfl
    all_goals
      sleep 1
      refine b_dict0 ?_
      sleep 1
      refine b_keys ?_
      sleep 1
      refine b_srt (enc := eN) ?_ (sort_N _)
      sleep 1
      refine wp_forT (T := Nat) (ts := keysL (lvs t w d ps z)) (enc := eN) (fun done n' => ∃ x8 x9 x10 x11 x12 x13 x14, n' = [.val (tZ t), .val (tZ w), .val (tZ d), .val (tP ps), .val (.int (m : Int)), _, .val (.int (z : Int)), .own false false (.dict ((puts (done.flatMap (candsM t w d ps (lvs t w d ps z))) []).map eKV)), x8, x9, x10, x11, x12, x13, x14, .emp, .emp, .emp, .emp] ∧ openS x8 = true ∧ openS x9 = true ∧ openS x10 = true ∧ openS x11 = true ∧ openS x12 = true ∧ openS x13 = true ∧ openS x14 = true)
        ⟨_, _, _, _, _, _, _, rfl, o8, o9, o10, o11, o12, o13, o14⟩ ?_ ?_
      · rintro done x rest n' e ⟨y8, y9, y10, y11, y12, y13, y14, rfl, q8, q9, q10, q11, q12, q13, q14⟩
        have hdl2 : done.length ≤ 46656 := by
          have := congrArg List.length e
          rw [List.length_append, List.length_cons] at this
          omega
        obtain ⟨y, hy⟩ := keys_mem.mp (show x ∈ keysL (lvs t w d ps z) by rw [e]; simp)
        obtain ⟨g1, g2, g3⟩ := hG.a x y hy
        have hyl : y.2.length ≤ 6 := by rw [g1.len]; omega
        have hFl := flat_len (w := w) (d := d) (ps := ps) (by omega : t.length ≤ 6) (lvs t w d ps z) done
        sleep 1
        refine o_lv ?_ hy rfl
        sleep 1
        refine wp_r1 (b := m) ?_ rfl (by omega)
        sleep 1
        refine wp_forN (fun j n' => ∃ x11 x12 x13 x14, n' = [.val (tZ t), .val (tZ w), .val (tZ d), .val (tP ps), .val (.int (m : Int)), _, .val (.int (z : Int)), .own false false (.dict ((puts (done.flatMap (candsM t w d ps (lvs t w d ps z)) ++ candJ t w d ps x y j) []).map eKV)), .val (.int (x : Int)), .val (.int y.1), .val (tN y.2), x11, x12, x13, x14, .emp, .emp, .emp, .emp] ∧ openS x11 = true ∧ openS x12 = true ∧ openS x13 = true ∧ openS x14 = true)
          ⟨_, _, _, _, by rw [show candJ t w d ps x y 0 = [] from rfl, List.append_nil], q11, q12, q13, q14⟩ ?_ ?_
        · rintro j n' hj ⟨z11, z12, z13, z14, rfl, r11, r12, r13, r14⟩
          generalize hL : puts (done.flatMap (candsM t w d ps (lvs t w d ps z)) ++ candJ t w d ps x y j) [] = L
          have hLl : L.length ≤ 46656 * 6 + 6 := by
            rw [← hL]
            refine Nat.le_trans (puts_len _ _) ?_
            rw [List.length_append, List.length_nil]
            have := candJ_len (t := t) (w := w) (d := d) (ps := ps) x y j
            omega
          have hLs : L.length < sizeLine := by rw [sizeLine_eq]; omega
          have hnext : ∀ L2 : Lv, L2 = (if allow ps x j = true then put1 L (x ||| 2 ^ j) (cand t w d x y j) else L) → L2 = puts (done.flatMap (candsM t w d ps (lvs t w d ps z)) ++ candJ t w d ps x y (j + 1)) [] := by
            rintro L2 rfl
            rw [candJ_succ, ← List.append_assoc, puts_app, hL]
            split <;> rfl
          sleep 1
          refine o_shr ?_ rfl rfl
          sleep 1
          refine o_and1 ?_
          sleep 1
          refine wp_andR (q := ((ps.filter fun p => decide (p.2 = j)).map fun p => bit x p.1).all id) (fun _ => ?_) ?_
          · sleep 1
            refine wp_blockF (T := Nat × Nat) (fun p => decide (p.2 = j)) (fun p => .bool (bit x p.1)) rfl (by repeat (first | exact SetAt.zero | apply SetAt.succ | exact Wiped.nil | apply Wiped.cons)) (fun q hq => ?_) ?_ (by rw [sizeLine_eq]; omega)
            · sleep 1
              refine wp_if ?_ ?_
              · intro e1
                rw [nateq] at e1
                sleep 1
                refine o_shr ?_ rfl rfl
                sleep 1
                refine o_and1 ?_
                sleep 1
                rw [bit_int, if_pos e1]
                exact ⟨rfl, by repeat (first | exact SetAt.zero | apply SetAt.succ | exact Wiped.nil | apply Wiped.cons)⟩
              · intro e1
                rw [nateq] at e1
                sleep 1
                rw [e1]
                exact ⟨rfl, by repeat (first | exact SetAt.zero | apply SetAt.succ | exact Wiped.nil | apply Wiped.cons)⟩
            · rw [map_of (g := PyData.bool) (h := fun p : Nat × Nat => bit x p.1) (fun _ => rfl)]
              sleep 1
              refine b_all ?_
              exact ⟨rfl, rfl⟩
          · rw [bits_allow]
            sleep 1
            refine wp_if ?_ ?_
            · intro ha
              sleep 1
              refine o_shl1 ?_ rfl (by omega)
              sleep 1
              refine o_bor ?_
              sleep 1
              refine wp_r1 (b := m) ?_ rfl (by omega)
              sleep 1
              refine wp_blockF (T := Nat) (bit (x ||| 2 ^ j)) (fun i => .int (ig t i)) rfl (by repeat (first | exact SetAt.zero | apply SetAt.succ | exact Wiped.nil | apply Wiped.cons)) (fun i hi => ?_) ?_ (by rw [List.length_range, sizeLine_eq]; omega)
              · have hi := List.mem_range.mp hi
                sleep 1
                refine o_shr ?_ rfl rfl
                sleep 1
                refine o_and1 ?_
                sleep 1
                rw [bit_int]
                refine wp_if ?_ ?_
                · intro e1
                  sleep 1
                  refine o_igt ?_ rfl (by omega)
                  sleep 1
                  rw [if_pos e1]
                  exact ⟨rfl, by repeat (first | exact SetAt.zero | apply SetAt.succ | exact Wiped.nil | apply Wiped.cons)⟩
                · intro e1
                  sleep 1
                  rw [e1]
                  exact ⟨rfl, by repeat (first | exact SetAt.zero | apply SetAt.succ | exact Wiped.nil | apply Wiped.cons)⟩
              · rw [map_of (g := PyData.int) (h := fun i => ig t i) (fun _ => rfl)]
                have eK : (((List.range m).filter (bit (x ||| 2 ^ j))).map fun i => ig t i).sum = endK t (x ||| 2 ^ j) := by unfold endK; rw [htl]
                have hw := h.wp hj
                sleep 1
                rw [eK]
                refine o_igt ?_ rfl (by omega)
                sleep 1
                refine o_igt ?_ rfl (by omega)
                sleep 1
                refine o_mul ?_ (.inl (by omega))
                sleep 1
                refine o_cat1 ?_ (by rw [sizeLine_eq]; omega)
                sleep 1
                refine cp_lvn ?_
                sleep 1
                cases hg : pget L (x ||| 2 ^ j) with
                | none =>
                  sleep 1
                  refine wp_setDict rfl (by repeat (first | exact SetAt.zero | apply SetAt.succ)) ?_ (notFL_kv L) (by rw [List.length_map]; exact hLs)
                  sleep 1
                  rw [show (PyData.tuple [.int (y.1 + ig w j * max 0 (endK t (x ||| 2 ^ j) - ig d j)), tN (y.2 ++ [j])]) = eB (cand t w d x y j) from rfl, dput_kv, hnext (pput L (x ||| 2 ^ j) (cand t w d x y j)) (by rw [if_pos ha]; unfold put1; rw [hg])]
                  exact ⟨_, _, _, _, rfl, rfl, rfl, rfl, rfl⟩
                | some v =>
                  have hvl : v.2.length ≤ 1000 := by
                    have hin := (Rel.nil.puts (done.flatMap (candsM t w d ps (lvs t w d ps z)) ++ candJ t w d ps x y j)).a (x ||| 2 ^ j) v (by rw [hL]; exact hg)
                    rw [List.nil_append] at hin
                    rcases List.mem_append.mp hin with hin | hin
                    · obtain ⟨M, _, hC⟩ := List.mem_flatMap.mp hin
                      exact candM_len (fun M u hu => by rw [(hG.a M u hu).1.len]; omega) hC
                    · obtain ⟨i, _, e⟩ := List.mem_map.mp hin
                      have ev : v = cand t w d x y i := (congrArg Prod.snd e).symm
                      rw [ev]
                      show (y.2 ++ [i]).length ≤ 1000
                      rw [List.length_append]
                      simp
                      omega
                  sleep 1
                  refine o_lv ?_ hg rfl
                  sleep 1
                  refine cp_ltB (x := cand t w d x y j) (y := v) ?_ (by show (y.2 ++ [j]).length ≤ _; rw [List.length_append, sizeLine_eq]; simp; omega) (by rw [sizeLine_eq]; omega)
                  sleep 1
                  refine wp_if ?_ ?_
                  · intro e1
                    sleep 1
                    refine wp_setDict rfl (by repeat (first | exact SetAt.zero | apply SetAt.succ)) ?_ (notFL_kv L) (by rw [List.length_map]; exact hLs)
                    sleep 1
                    rw [show (PyData.tuple [.int (y.1 + ig w j * max 0 (endK t (x ||| 2 ^ j) - ig d j)), tN (y.2 ++ [j])]) = eB (cand t w d x y j) from rfl, dput_kv, hnext (pput L (x ||| 2 ^ j) (cand t w d x y j)) (by rw [if_pos ha]; unfold put1; rw [hg]; simp only; rw [if_pos e1])]
                    exact ⟨_, _, _, _, rfl, rfl, rfl, rfl, rfl⟩
                  · intro e1
                    sleep 1
                    rw [hnext L (by rw [if_pos ha]; unfold put1; rw [hg]; simp only; rw [e1]; rfl)]
                    exact ⟨_, _, _, _, rfl, rfl, rfl, rfl, rfl⟩
            · intro ha
              sleep 1
              rw [hnext L (by rw [ha]; rfl)]
              exact ⟨_, _, _, _, rfl, rfl, r12, r13, r14⟩
        · rintro n' ⟨z11, z12, z13, z14, rfl, r11, r12, r13, r14⟩
          sleep 1
          have e3 : (done ++ [x]).flatMap (candsM t w d ps (lvs t w d ps z)) = done.flatMap (candsM t w d ps (lvs t w d ps z)) ++ candJ t w d ps x y m := by
            rw [List.flatMap_append]
            congr 1
            rw [List.flatMap_cons, List.flatMap_nil, List.append_nil]
            unfold candsM candJ
            rw [hy, htl]
          rw [e3]
          exact ⟨_, _, _, _, _, _, _, rfl, rfl, rfl, rfl, r11, r12, r13, r14⟩
      · rintro n' ⟨y8, y9, y10, y11, y12, y13, y14, rfl, q8, q9, q10, q11, q12, q13, q14⟩
        sleep 1
        exact ⟨_, _, _, _, _, _, _, _, _, _, rfl, .inr rfl, rfl, rfl, q8, q9, q10, q11, q12, q13, q14⟩
  · rintro n' ⟨s5, x6, x7, x8, x9, x10, x11, x12, x13, x14, rfl, hs5, o6, o7, o8, o9, o10, o11, o12, o13, o14⟩
    have hL := (leastK_is h hp h0 hk0).1
    rw [htl] at hL
    have e0 : ((2 ^ m : Nat) : Int) - 1 = ((2 ^ m - 1 : Nat) : Int) := by
      have := Nat.one_le_two_pow (n := m)
      omega
    rcases hs5 with rfl | rfl
    all_goals
      sleep 1
      refine o_shl1 ?_ rfl (by omega)
      sleep 1
      refine o_lv ?_ hL e0
      sleep 1
      rfl
end
end DM.k05
set_option Elab.async false
set_option linter.all false
set_option maxRecDepth 100000
set_option maxHeartbeats 4000000
/-! LG_k05: the bound; neighbours exchanged. -/
namespace DM.k05
open PySem DM
local macro_rules
  | `(tactic| sleep 1) => `(tactic| repeat (first | with_reducible (first | refine wp_seq ?_ | refine wp_con ?_ | refine wp_evs ?_ | refine wp_evs0 ?_ | refine wp_rd_v ?_ | refine wp_rd_f ?_ | refine wp_rds ?_ | refine wp_rds0 ?_ | refine wp_kp_v ?_ | refine wp_kp_f ?_ | refine wp_keeps ?_ | refine wp_keeps0 ?_ | refine wp_bin ?_ | refine wp_idx ?_ | refine wp_blt ?_ | refine wp_cmp ?_ | refine wp_tup ?_ | refine wp_lst ?_ | refine wp_call ?_ | refine wp_and ?_ | refine wp_or ?_ | refine wp_not ?_ | refine wp_ife ?_ | refine wp_slc ?_ | refine wp_asI ?_ | refine wp_neg ?_ | refine IntOk.mk ?_ | refine Tagged.lst ?_ | refine wp_mth ?_ | refine wp_app ?_ | refine wp_tru ?_ | refine o_add ?_ | refine o_sub ?_ | refine cp_eq ?_ | refine cp_ne ?_ | refine cp_lt ?_ | refine cp_gt ?_ | refine cp_le ?_ | refine cp_ge ?_ | refine tr_b ?_ | refine wp_t ?_ | refine wp_f ?_ | refine wp_asg ?_ | refine wp_put_s ?_ | refine wp_retS ?_ | refine wp_retN ?_ | refine wp_ifS ?_ | refine wp_setI ?_ | refine wp_aug ?_ | refine wp_exp ?_ | refine wp_par ?_ | refine wp_sts ?_ | refine wp_sts0 ?_ | refine wp_st_v ?_ | refine wp_st_f ?_ | refine wp_st_s ?_ | refine wp_pa ?_ | refine wp_pa0 ?_ | refine wp_asgT ?_ | refine wp_for ?_ | refine wp_nil ?_ | refine wp_brk ?_ | refine wp_cont ?_ | refine wp_comp ?_ | refine wp_comp2 ?_ | refine wp_tst0 ?_ | refine wp_tst ?_ | refine wp_nm ?_ | refine wp_tu ?_ | refine wp_ts ?_ | refine wp_ts0 ?_ | refine wp_wkvt ?_ | refine wp_wkvl ?_ | refine wp_wkfl ?_ | refine wp_lock0 ?_ | refine wp_wke ?_ | refine g_add ?_ | refine g_sub ?_ | refine wp_bnd ?_ | refine wp_ret ?_ | refine wp_some ?_ | refine b_lenF ?_ | refine b_lenl ?_ | refine b_lent ?_ | refine b_abs ?_ | refine b_int ?_ | refine b_max ?_ | refine b_min ?_ | refine b_sum ?_ | refine b_sumT ?_ | refine b_tup ?_ | refine b_lst ?_ | refine b_lstt ?_) | ((with_reducible apply wp_var_v); exact rfl) | ((with_reducible apply wp_var_o); exact rfl) | ((with_reducible apply wp_rd_s); exact rfl) | ((with_reducible apply wp_rd_sv); exact rfl) | ((with_reducible apply wp_kp_sv); exact rfl) | ((with_reducible apply wp_wks); exact rfl) | ((with_reducible apply Tagged.tup); exact rfl) | ((with_reducible apply wp_lockL); exact rfl) | ((with_reducible apply cp_is); exact rfl) | ((with_reducible apply cp_isn); exact rfl) | ((with_reducible apply o_ixl); exact rfl) | ((with_reducible apply o_ixt); exact rfl) | ((with_reducible apply wp_tt); exact rfl) | ((with_reducible apply wp_ff); exact rfl) | ((with_reducible apply wp_tt); assumption) | ((with_reducible apply wp_ff); assumption) | ((with_reducible refine o_ixF ?_ (by assumption)); intro _) | ((with_reducible apply wp_lockF); exact rfl; (repeat (first | exact SetAt.zero | apply SetAt.succ))) | ((with_reducible apply UnLk.mk); exact rfl; (repeat (first | exact SetAt.zero | apply SetAt.succ))) | ((with_reducible apply Both.mk); (first | exact rfl | exact len60 rfl | assumption)) | ((with_reducible apply b_isaT); exact rfl; (first | exact rfl | assumption)) | ((with_reducible apply b_isaF); exact rfl; (first | exact rfl | assumption)) | ((with_reducible apply wp_appC); exact rfl; (repeat (first | exact SetAt.zero | apply SetAt.succ))) | ((with_reducible apply wp_kp_s); exact rfl; (repeat (first | exact SetAt.zero | apply SetAt.succ))) | ((with_reducible apply wp_put_v); (repeat (first | exact SetAt.zero | apply SetAt.succ)); (first | exact rfl | assumption)) | ((with_reducible apply wp_put_f); (repeat (first | exact SetAt.zero | apply SetAt.succ)); (first | exact rfl | assumption)) | ((with_reducible apply wp_putSl); (repeat (first | exact SetAt.zero | apply SetAt.succ)); (first | exact rfl | assumption)) | ((with_reducible apply wp_setAt); exact rfl; exact rfl; (repeat (first | exact SetAt.zero | apply SetAt.succ)))))
section
variable {m : Nat} {t w d : List Int} {o : List Nat}
theorem kept0 (o : List Nat) : kept [] o = true := rfl
theorem r_least {k : Nat} (h : Jb m t w d) : run P (k + 2) 11 [.val (tZ t), .val (tZ w), .val (tZ d)] = .ok false (eB (leastK t w d [])) [.emp, .emp, .emp] := by
  refine run_wp (n0 := [_, _, _]) rfl rfl (Nat.le_of_ble_eq_true rfl) rfl ?_
  sleep 1
  refine wp_callV rfl rfl rfl rfl ?_ (r_lkept (ps := []) h (fun p hp => nomatch hp) (Nat.zero_le _) (List.Perm.refl _) (kept0 _))
  sleep 1
  rfl
/-! ### all_late_bound -/
theorem ins_perm {xs : List Nat} {x : Nat} (a : Nat) : (xs.take a ++ [x] ++ xs.drop a).Perm (x :: xs) := by
  rw [List.append_assoc]
  show (xs.take a ++ x :: xs.drop a).Perm _
  refine List.perm_middle.trans ?_
  rw [List.take_append_drop]
theorem ins_pair {xs : List Nat} {x : Nat} {R : Nat → Nat → Prop} {a : Nat} (hx : xs.Pairwise R) (h1 : ∀ y ∈ xs.take a, R y x) (h2 : ∀ y ∈ xs.drop a, R x y) : (xs.take a ++ [x] ++ xs.drop a).Pairwise R := by
  have hs : (xs.take a ++ xs.drop a).Pairwise R := by rw [List.take_append_drop]; exact hx
  have hs := List.pairwise_append.mp hs
  rw [List.append_assoc, List.pairwise_append]
  refine ⟨hs.1, List.pairwise_cons.mpr ⟨h2, hs.2.1⟩, fun y hy z hz => ?_⟩
  rcases List.mem_cons.mp hz with rfl | hz
  · exact h1 y hy
  · exact hs.2.2 y hy z hz
theorem r_bound {k : Nat} (h : Jb m t w d) : ∃ b, run P (k + 2) 15 [.val (tZ t), .val (tZ w), .val (tZ d)] = .ok false (.int (bsum t w d b)) [.emp, .emp, .emp] ∧ Ord m b ∧ ∀ o, Ord m o → bsum t w d b ≤ bsum t w d o := by
  have go : ∃ fr dd fin, run P (k + 2) 15 [.val (tZ t), .val (tZ w), .val (tZ d)] = .ok fr dd fin ∧ ∃ b, fr = false ∧ dd = .int (bsum t w d b) ∧ fin = [.emp, .emp, .emp] ∧ Ord m b ∧ b.Pairwise (Ah t w) := by
    refine run_ex (n0 := [_, _, _, _, _, _, _, _, _, _]) rfl rfl (Nat.le_of_ble_eq_true rfl) rfl ?_
    have h6 := h.m6
    have htl := h.tl
    have hwl := h.wl
    have hdl := h.dl
    sleep 1
    rw [List.length_map, htl]
    refine wp_r1 (b := m) ?_ rfl (by omega)
    sleep 1
    refine wp_blockM (T := Nat) (fun j => eN j) rfl (by repeat (first | exact SetAt.zero | apply SetAt.succ | exact Wiped.nil | apply Wiped.cons)) (fun j hj => ?_) ?_ (by rw [List.length_range, sizeLine_eq]; omega)
    · sleep 1
      exact ⟨rfl, by repeat (first | exact SetAt.zero | apply SetAt.succ | exact Wiped.nil | apply Wiped.cons)⟩
    · sleep 1
      refine b_srt (enc := eN) ?_ (sort_N _)
      rw [show srtE eN (List.range m) = List.range m from srtN_range (List.Perm.refl _)]
      sleep 1
      refine wp_forN (fun z n' => ∃ b x4 x7, n' = [.val (tZ t), .val (tZ w), .val (tZ d), .val (.int (m : Int)), x4, .own true false (.list ((List.range m).map eN)), .own false false (.list (b.map eN)), x7, .emp, .emp] ∧ FS x4 ∧ openS x7 = true ∧ b.Perm (List.range z) ∧ b.Pairwise (Ah t w)) ⟨[], _, _, rfl, FS.emp, rfl, List.Perm.refl _, List.Pairwise.nil⟩ ?_ ?_
      · rintro z n' hz ⟨b, x4, x7, rfl, f4, o7, hb, hpw⟩
        have o4 := f4.op
        have hbl : b.length = z := by have := hb.length_eq; rwa [List.length_range] at this
        have hbm : ∀ y ∈ b, y < m := fun y hy => by have := List.mem_range.mp (hb.mem_iff.mp hy); omega
        sleep 1
        refine wp_mono (Q := fun fl n' => fl = .next ∧ ∃ a, a ≤ b.length ∧ n' = [.val (tZ t), .val (tZ w), .val (tZ d), .val (.int (m : Int)), .val (.int (z : Int)), .own true false (.list ((List.range m).map eN)), .own false false (.list (b.map eN)), .val (.int (a : Int)), .emp, .emp] ∧ (∀ y ∈ b.take a, Ah t w y z) ∧ (∀ y ∈ b.drop a, Ah t w z y)) ?_ ?_
        · refine wp_whl (fun a n' => a ≤ b.length ∧ n' = [.val (tZ t), .val (tZ w), .val (tZ d), .val (.int (m : Int)), .val (.int (z : Int)), .own true false (.list ((List.range m).map eN)), .own false false (.list (b.map eN)), .val (.int (a : Int)), .emp, .emp] ∧ (∀ y ∈ b.drop a, Ah t w z y)) b.length (by show _ < 1000000; omega) ⟨Nat.le_refl _, by rw [List.length_map], by rw [List.drop_length]; exact fun y hy => nomatch hy⟩ ?_
          rintro a n' ⟨hab, rfl, hdr⟩
          sleep 1
          refine wp_if ?_ ?_
          · intro ha
            have ha : 0 < a := by have := of_decide_eq_true ha; omega
            have hy : b.getD (a - 1) 0 ∈ b := getD_mem (by omega)
            have hym := hbm _ hy
            have hwz := h.wp (j := z) (by omega)
            have hwy := h.wp (j := b.getD (a - 1) 0) hym
            sleep 1
            refine o_igt ?_ rfl (by omega)
            sleep 1
            refine o_nl (k := a - 1) ?_ (by omega) (by omega)
            sleep 1
            refine o_igt ?_ rfl (by omega)
            sleep 1
            refine o_mul ?_ (.inl (by omega))
            sleep 1
            refine o_nl (k := a - 1) ?_ (by omega) (by omega)
            sleep 1
            refine o_igt ?_ rfl (by omega)
            sleep 1
            refine o_igt ?_ rfl (by omega)
            sleep 1
            refine o_mul ?_ (.inl (by omega))
            sleep 1
            have hdrop : b.drop (a - 1) = b.getD (a - 1) 0 :: b.drop a := by
              rw [List.drop_eq_getElem_cons (show a - 1 < b.length by omega)]
              have e1 : a - 1 + 1 = a := by omega
              rw [e1, List.getD_eq_getElem?_getD, List.getElem?_eq_getElem (show a - 1 < b.length by omega)]
              rfl
            split
            · rename_i hgt
              have hgt := of_decide_eq_true hgt
              sleep 1
              refine ⟨a - 1, by omega, by omega, ?_, ?_⟩
              · have e1 : ((a : Nat) : Int) - 1 = ((a - 1 : Nat) : Int) := by omega
                rw [e1]
              · rw [hdrop]
                intro y hy2
                rcases List.mem_cons.mp hy2 with rfl | hy2
                · show _ ≤ _
                  omega
                · exact hdr y hy2
            · rename_i hle
              have hle : ¬ ig w z * ig t (b.getD (a - 1) 0) > ig w (b.getD (a - 1) 0) * ig t z := fun q => hle (decide_eq_true q)
              sleep 1
              refine ⟨rfl, a, hab, rfl, ?_, hdr⟩
              have hzy : Ah t w (b.getD (a - 1) 0) z := by show _ ≤ _; omega
              have htake : b.take a = b.take (a - 1) ++ [b.getD (a - 1) 0] := by
                have e1 : a = a - 1 + 1 := by omega
                conv => lhs; rw [e1]
                rw [List.take_succ, List.getElem?_eq_getElem (show a - 1 < b.length by omega), List.getD_eq_getElem?_getD, List.getElem?_eq_getElem (show a - 1 < b.length by omega)]
                rfl
              intro y hy2
              rw [htake] at hy2
              rcases List.mem_append.mp hy2 with hy3 | hy3
              · have hp2 : (b.take (a - 1) ++ b.drop (a - 1)).Pairwise (Ah t w) := by rw [List.take_append_drop]; exact hpw
                rw [hdrop] at hp2
                have h1 := (List.pairwise_append.mp hp2).2.2 y hy3 _ (List.mem_cons_self ..)
                exact h1.trans (by have := h.tp hym; omega) (h.t0 _) (h.t0 _) hzy
              · rw [List.mem_singleton.mp hy3]; exact hzy
          · intro ha
            have ha : a = 0 := by have := of_decide_eq_false ha; omega
            subst ha
            sleep 1
            exact ⟨rfl, 0, Nat.zero_le _, rfl, (fun y hy => nomatch hy), hdr⟩
        · rintro fl n' ⟨rfl, a, hab, rfl, h1, h2⟩
          sleep 1
          refine wp_ins ?_
          sleep 1
          refine wp_insC (k := a) rfl (by repeat (first | exact SetAt.zero | apply SetAt.succ)) ?_ rfl (by rw [List.length_map, sizeLine_eq]; omega) (by omega)
          sleep 1
          refine ⟨b.take a ++ [z] ++ b.drop a, _, _, by rw [List.map_append, List.map_append, List.map_take, List.map_drop]; rfl, FS.val, rfl, ?_, ins_pair hpw h1 h2⟩
          refine (ins_perm a).trans ?_
          rw [List.range_succ]
          exact (hb.cons z).trans (List.perm_append_comm (l₁ := [z]))
      · rintro n' ⟨b, x4, x7, rfl, f4, o7, hb, hpw⟩
        have o4 := f4.op
        have hO : Ord m b := hb
        have hbl := hO.len
        sleep 1
        refine wp_callV rfl rfl rfl rfl ?_ (r_ends rfl (h.lt hO) (by omega))
        sleep 1
        refine wp_r1 (b := m) ?_ rfl (by omega)
        sleep 1
        refine wp_blockM (T := Nat) (fun j => .int (ig w j * (ig (ends t b) j - ig d j))) (by rcases f4 with rfl | ⟨d, rfl⟩ <;> rfl) (by repeat (first | exact SetAt.zero | apply SetAt.succ | exact Wiped.nil | apply Wiped.cons)) (fun j hj => ?_) ?_ (by rw [List.length_range, sizeLine_eq]; omega)
        · have hj := List.mem_range.mp hj
          have hw := h.wp (j := j) (by omega)
          have hel := ends_len t b
          sleep 1
          refine o_igt ?_ rfl (by omega)
          sleep 1
          refine o_igt ?_ rfl (by omega)
          sleep 1
          refine o_igt ?_ rfl (by omega)
          sleep 1
          refine o_mul ?_ (.inl (by omega))
          sleep 1
          exact ⟨rfl, by repeat (first | exact SetAt.zero | apply SetAt.succ | exact Wiped.nil | apply Wiped.cons)⟩
        · rw [map_of (g := PyData.int) (h := fun j => ig w j * (ig (ends t b) j - ig d j)) (fun _ => rfl)]
          sleep 1
          refine ⟨_, _, _, rfl, b, rfl, ?_, rfl, hO, hpw⟩
          unfold bsum
          rw [htl]
  obtain ⟨fr, dd, fin, e, b, rfl, rfl, rfl, hO, hpw⟩ := go
  refine ⟨b, e, hO, fun o ho => ?_⟩
  rw [bsum_cst h.tl hO, bsum_cst h.tl ho]
  exact lin_sorted b o 0 hpw (ho.trans hO.symm)
/-! ### neighbours exchanged -/
def nb (o : List Nat) (k : Nat) : List Nat := o.take k ++ [o.getD (k + 1) 0, o.getD k 0] ++ o.drop (k + 2)
def lss (t w d : List Int) (o x : List Nat) : Bool := decide (lsum t w d x < lsum t w d o)
def nbs (o : List Nat) (n : Nat) : List (List Nat) := (List.range n).map (nb o)
def bn (t w d : List Int) (o : List Nat) : Option (List Nat) := (nbs o (o.length - 1)).find? (lss t w d o)
@[reducible] def encO : Option (List Nat) → PyData
  | none => .none
  | some t => tN t
theorem nbs_succ (o : List Nat) (n : Nat) : nbs o (n + 1) = nbs o n ++ [nb o n] := by
  unfold nbs
  rw [List.range_succ, List.map_append]
  rfl
theorem nb_perm {o : List Nat} {k : Nat} (hk : k + 1 < o.length) : (nb o k).Perm o := by
  unfold nb
  have e : o = o.take k ++ (o.getD k 0 :: o.getD (k + 1) 0 :: o.drop (k + 2)) := by
    have h1 : o.getD k 0 = o[k] := by rw [List.getD_eq_getElem?_getD, List.getElem?_eq_getElem (by omega)]; rfl
    have h2 : o.getD (k + 1) 0 = o[k + 1] := by rw [List.getD_eq_getElem?_getD, List.getElem?_eq_getElem (by omega)]; rfl
    rw [h1, h2, ← List.drop_eq_getElem_cons hk, ← List.drop_eq_getElem_cons (by omega), List.take_append_drop]
  conv => rhs; rw [e]
  rw [List.append_assoc]
  exact List.Perm.append_left _ (List.Perm.swap _ _ _)
theorem nbs_perm {o x : List Nat} {n : Nat} (hn : n ≤ o.length - 1) (h : x ∈ nbs o n) : x.Perm o := by
  obtain ⟨i, hi, rfl⟩ := List.mem_map.mp h
  exact nb_perm (by have := List.mem_range.mp hi; omega)
theorem find_at {o : List Nat} {p : List Nat → Bool} {n k : Nat} (hk : k < n) (hno : (nbs o k).find? p = none) (hy : p (nb o k) = true) : (nbs o n).find? p = some (nb o k) := by
  have e1 : List.range n = List.range k ++ (k :: List.range' (k + 1) (n - (k + 1))) := by
    have : List.range n = List.range' 0 (k + (n - k)) := by rw [List.range_eq_range']; congr 1; omega
    rw [this, ← List.range'_append_1, ← List.range_eq_range', Nat.zero_add]
    congr 1
    have : n - k = (n - (k + 1)) + 1 := by omega
    rw [this, List.range'_succ]
  unfold nbs at hno ⊢
  rw [e1, List.map_append, List.find?_append, hno, Option.none_or, List.map_cons, List.find?_cons, hy]
theorem r_bn {k : Nat} (h : Jb m t w d) (ho : Ord m o) : run P (k + 3) 16 [.val (tZ t), .val (tZ w), .val (tZ d), .val (tN o)] = .ok false (encO (bn t w d o)) [.emp, .emp, .emp, .emp] := by
  refine run_wp (n0 := [_, _, _, _, _, _, _]) rfl rfl (Nat.le_of_ble_eq_true rfl) rfl ?_
  have h6 := h.m6
  have hl := ho.len
  sleep 1
  refine wp_callV rfl rfl rfl rfl ?_ (r_tard h ho)
  sleep 1
  have key : ∀ z : Int, z = ((o.length - 1 : Nat) : Int) ∨ (o.length = 0 ∧ z = -1) → wp (walk .range1 [.v (.int z)]) [Sl.val (tZ t), .val (tZ w), .val (tZ d), .val (tN o), .val (.int (lsum t w d o)), .emp, .emp] fun r n' => r = ((List.range (o.length - 1)).map eN, []) ∧ n' = [Sl.val (tZ t), .val (tZ w), .val (tZ d), .val (tN o), .val (.int (lsum t w d o)), .emp, .emp] := by
    rintro z (rfl | ⟨h0, rfl⟩)
    · exact wp_r1 (b := o.length - 1) ⟨rfl, rfl⟩ rfl (by omega)
    · refine ⟨_, _, wkr1' (-1) _ (by decide), ?_, rfl⟩
      rw [h0]
      rfl
  refine wp_mono (key _ (by rw [List.length_map]; omega)) ?_
  rintro r n' ⟨rfl, rfl⟩
  sleep 1
  refine wp_forN (fun k n' => ∃ a b, n' = [.val (tZ t), .val (tZ w), .val (tZ d), .val (tN o), .val (.int (lsum t w d o)), a, b] ∧ openS a = true ∧ openS b = true ∧ (nbs o k).find? (lss t w d o) = none) ⟨_, _, rfl, rfl, rfl, rfl⟩ ?_ ?_
  · rintro k n' hk ⟨a, b, rfl, oa, ob, hno⟩
    sleep 1
    refine s_to (k := k) ?_ rfl
    sleep 1
    refine o_ogt (k := k + 1) (d := 0) ?_ (by omega) (by omega)
    sleep 1
    refine o_ogt (k := k) (d := 0) ?_ rfl (by omega)
    sleep 1
    refine o_cat (enc := eN) (xs := o.take k) (ys := [o.getD (k + 1) 0, o.getD k 0]) ?_ (by rw [List.length_take, sizeLine_eq]; simp; omega)
    sleep 1
    refine s_from (k := k + 2) ?_ (by omega)
    sleep 1
    refine o_cat ?_ (by rw [List.length_append, List.length_take, List.length_drop, sizeLine_eq]; simp; omega)
    have hO : Ord m (nb o k) := (nb_perm (by omega)).trans ho
    sleep 1
    refine wp_callV rfl rfl rfl rfl ?_ (r_tard (o := nb o k) h hO)
    sleep 1
    refine wp_if ?_ ?_
    · intro e
      have hbn : bn t w d o = some (nb o k) := find_at hk hno e
      sleep 1
      rw [hbn]
      rfl
    · intro e
      sleep 1
      refine ⟨_, _, rfl, rfl, rfl, ?_⟩
      rw [nbs_succ, List.find?_append, hno, Option.none_or, List.find?_cons]
      have : lss t w d o (nb o k) = false := e
      rw [this]
      rfl
  · rintro n' ⟨a, b, rfl, oa, ob, hno⟩
    have hbn : bn t w d o = none := hno
    sleep 1
    rw [hbn]
    rfl
theorem cst_bd (h : Jb m t w d) : ∀ (o : List Nat) (h0 : Int), (∀ j ∈ o, j < m) → 0 ≤ h0 → 0 ≤ cst t (Fl w d) h0 o ∧ cst t (Fl w d) h0 o ≤ (o.length : Int) * (4 * (h0 + 6 * (o.length : Int)))
  | [], h0, _, _ => by simp [cst]
  | j :: o, h0, hj, hh => by
    have hjm := hj j (List.mem_cons_self ..)
    have ht := h.tp hjm
    have hw := h.wp hjm
    have hd := h.dp hjm
    have ih := cst_bd h o (h0 + ig t j) (fun i hi => hj i (List.mem_cons_of_mem _ hi)) (by omega)
    have e : cst t (Fl w d) h0 (j :: o) = Fl w d j (h0 + ig t j) + cst t (Fl w d) (h0 + ig t j) o := rfl
    have f0 : 0 ≤ Fl w d j (h0 + ig t j) := Int.mul_nonneg hw.1 (by omega)
    have f1 : Fl w d j (h0 + ig t j) ≤ 4 * (h0 + 6) := Int.le_trans (Int.mul_le_mul_of_nonneg_right hw.2 (by omega)) (by omega)
    have f2 : (o.length : Int) * (4 * (h0 + ig t j + 6 * (o.length : Int))) ≤ (o.length : Int) * (4 * (h0 + 6 + 6 * (o.length : Int))) := Int.mul_le_mul_of_nonneg_left (by omega) (by omega)
    have f3 : ((o.length : Int) + 1) * (4 * (h0 + 6 + 6 * (o.length : Int))) = (o.length : Int) * (4 * (h0 + 6 + 6 * (o.length : Int))) + 4 * (h0 + 6 + 6 * (o.length : Int)) := by rw [Int.add_mul, Int.one_mul]
    rw [e, List.length_cons]
    have e6 : (((o.length + 1 : Nat)) : Int) = (o.length : Int) + 1 := by omega
    rw [e6]
    have e7 : h0 + 6 * ((o.length : Int) + 1) = h0 + 6 + 6 * (o.length : Int) := by omega
    rw [e7, f3]
    omega
theorem lsum_bd (h : Jb m t w d) (ho : Ord m o) : 0 ≤ lsum t w d o ∧ lsum t w d o ≤ 900 := by
  rw [lsum_cst h.tl ho]
  have hb := cst_bd h o 0 (fun j hj => ho.lt hj) (Int.le_refl 0)
  rw [ho.len] at hb
  have h6 := h.m6
  refine ⟨hb.1, Int.le_trans hb.2 ?_⟩
  have : (m : Int) * (4 * (0 + 6 * (m : Int))) ≤ 6 * (4 * (0 + 6 * (m : Int))) := Int.mul_le_mul_of_nonneg_right (by omega) (by omega)
  omega
theorem r_bestn {k : Nat} (h : Jb m t w d) (ho : Ord m o) : ∃ b, run P (k + 4) 17 [.val (tZ t), .val (tZ w), .val (tZ d), .val (tN o)] = .ok false (tN b) [.emp, .emp, .emp, .emp] ∧ Ord m b ∧ bn t w d b = none ∧ lsum t w d b ≤ lsum t w d o ∧ (bn t w d o = none → b = o) := by
  have go : ∃ fr dd fin, run P (k + 4) 17 [.val (tZ t), .val (tZ w), .val (tZ d), .val (tN o)] = .ok fr dd fin ∧ ∃ b, fr = false ∧ dd = tN b ∧ fin = [.emp, .emp, .emp, .emp] ∧ Ord m b ∧ bn t w d b = none ∧ lsum t w d b ≤ lsum t w d o ∧ (bn t w d o = none → b = o) := by
    refine run_ex (n0 := [_, _, _, _, _]) rfl rfl (Nat.le_of_ble_eq_true rfl) rfl ?_
    refine wp_seq (wp_whl (fun k n' => ∃ x a, n' = [.val (tZ t), .val (tZ w), .val (tZ d), .val (tN x), a] ∧ openS a = true ∧ Ord m x ∧ lsum t w d x = (k : Int) ∧ lsum t w d x ≤ lsum t w d o ∧ (bn t w d o = none → x = o)) (lsum t w d o).toNat (by have := lsum_bd h ho; show _ < 1000000; omega) ⟨o, _, rfl, rfl, ho, by have := lsum_bd h ho; omega, Int.le_refl _, fun _ => rfl⟩ ?_)
    rintro i n' ⟨x, a, rfl, oa, hx, hi, hle, hsame⟩
    sleep 1
    show wp _ _ _
    sleep 1
    refine wp_callV rfl rfl rfl rfl ?_ (r_bn h hx)
    sleep 1
    cases hb : bn t w d x with
    | none =>
      sleep 1
      exact ⟨_, _, _, rfl, x, rfl, rfl, rfl, hx, hb, hle, hsame⟩
    | some u =>
      have hu : u ∈ nbs x (x.length - 1) ∧ lss t w d x u = true := ⟨List.mem_of_find?_eq_some hb, List.find?_some hb⟩
      have hlt : lsum t w d u < lsum t w d x := of_decide_eq_true hu.2
      have hou : Ord m u := (nbs_perm (Nat.le_refl _) hu.1).trans hx
      have hbu := lsum_bd h hou
      sleep 1
      refine ⟨(lsum t w d u).toNat, by omega, u, _, rfl, rfl, hou, by omega, by omega, fun z => ?_⟩
      rw [hsame z] at hb
      rw [z] at hb
      cases hb
  obtain ⟨fr, dd, fin, e, b, rfl, rfl, rfl, h⟩ := go
  exact ⟨b, e, h⟩
end
end DM.k05
set_option Elab.async false
set_option linter.all false
set_option maxRecDepth 100000
/-! LT_k05: the law's rows, in parts. -/
namespace DM.k05
open PySem DM
def T23 : Sm := (.seq (.asg 15 (.con .none)) (.seq (.forr (.nm 14) .range1 (.cons (.bin .Sub (.var 2) (.con (.int 1))) .nil) (.seq (.asg 21 (.bin .Add (.bin .Add (.slc (.var 7) .nil (.var 14)) (.tup (.cons (.idx (.var 7) (.bin .Add (.var 14) (.con (.int 1)))) (.cons (.idx (.var 7) (.var 14)) .nil)))) (.slc (.var 7) (.bin .Add (.var 14) (.con (.int 2))) .nil))) (.seq (.ife (.and (.cmp .Is (.var 15) (.con .none)) (.cmp .Lt (.call 18 [false, false, false, false] (.cons (.var 3) (.cons (.var 4) (.cons (.var 5) (.cons (.var 21) .nil))))) (.call 18 [false, false, false, false] (.cons (.var 3) (.cons (.var 4) (.cons (.var 5) (.cons (.var 7) .nil))))))) (.seq (.asg 15 (.var 21)) .nil) .nil) .nil))) (.seq (.asg 22 (.call 17 [false, false, false, false] (.cons (.var 3) (.cons (.var 4) (.cons (.var 5) (.cons (.var 7) .nil)))))) (.seq (.ife (.or (.not (.call 2 [false, false] (.cons (.call 16 [false, false, false, false] (.cons (.var 3) (.cons (.var 4) (.cons (.var 5) (.cons (.var 7) .nil))))) (.cons (.var 15) .nil)))) (.cmp .IsNot (.call 16 [false, false, false, false] (.cons (.var 3) (.cons (.var 4) (.cons (.var 5) (.cons (.var 22) .nil))))) (.con .none))) (.seq (.ret (.con (.bool false))) .nil) .nil) (.seq (.ret (.and (.cmp .Eq (.blt .sorted (.cons (.var 22) .nil)) (.blt .listr (.cons (.con (.int 0)) (.cons (.var 2) .nil)))) (.and (.cmp .LtE (.call 18 [false, false, false, false] (.cons (.var 3) (.cons (.var 4) (.cons (.var 5) (.cons (.var 22) .nil))))) (.call 18 [false, false, false, false] (.cons (.var 3) (.cons (.var 4) (.cons (.var 5) (.cons (.var 7) .nil)))))) (.or (.cmp .IsNot (.var 15) (.con .none)) (.cmp .Eq (.var 22) (.var 7)))))) .nil)))))
def T20 : Sm := (.seq (.asg 20 (.lst .nil)) (.seq (.forr (.nm 10) .plain (.cons (.var 6) .nil) (.seq (.asg 17 (.call 4 [false, false] (.cons (.var 3) (.cons (.var 10) .nil)))) (.seq (.exp (.mth .append (.var 20) (.cons (.blt .sum (.cons (.comp [23, 14] (.nm 14) .range1 (.cons (.var 2) .nil) .nil (.bin .Mult (.idx (.var 4) (.var 14)) (.bin .Sub (.idx (.var 17) (.var 14)) (.idx (.var 5) (.var 14))))) .nil)) .nil))) .nil))) (.seq (.ife (.or (.not (.call 2 [false, false] (.cons (.call 15 [false, false, false] (.cons (.var 3) (.cons (.var 4) (.cons (.var 5) .nil)))) (.cons (.blt .min (.cons (.var 20) .nil)) .nil)))) (.cmp .Gt (.blt .min (.cons (.var 20) .nil)) (.idx (.blt .min (.cons (.var 8) .nil)) (.con (.int 0))))) (.seq (.ret (.con (.bool false))) .nil) .nil) T23)))
def T18 : Sm := (.seq (.asg 19 (.bin .Mult (.tup (.cons (.con (.int 1)) .nil)) (.var 2))) (.seq (.ife (.and (.cmp .Lt (.blt .len (.cons (.var 18) .nil)) (.con (.int 2))) (.cmp .NotEq (.call 18 [false, false, false, false] (.cons (.var 3) (.cons (.var 19) (.cons (.var 5) (.cons (.var 16) .nil))))) (.blt .min (.cons (.comp [23, 10] (.nm 10) .plain (.cons (.var 6) .nil) .nil (.call 18 [false, false, false, false] (.cons (.var 3) (.cons (.var 19) (.cons (.var 5) (.cons (.var 10) .nil)))))) .nil)))) (.seq (.ret (.con (.bool false))) .nil) .nil) T20))
def T14 : Sm := (.seq (.asg 16 (.blt .tuple (.cons (.comp [23, 15, 24] (.tu (.cons (.nm 15) (.cons (.nm 24) .nil))) .plain (.cons (.blt .sorted (.cons (.comp [23, 14] (.nm 14) .range1 (.cons (.var 2) .nil) .nil (.tup (.cons (.idx (.var 5) (.var 14)) (.cons (.var 14) .nil)))) .nil)) .nil) .nil (.var 24)) .nil))) (.seq (.asg 17 (.call 4 [false, false] (.cons (.var 3) (.cons (.var 16) .nil)))) (.seq (.asg 18 (.comp [23, 14] (.nm 14) .range1 (.cons (.var 2) .nil) (.cons (.cmp .Gt (.idx (.var 17) (.var 14)) (.idx (.var 5) (.var 14))) .nil) (.var 14))) (.seq (.ife (.not (.call 2 [false, false] (.cons (.call 14 [false, false] (.cons (.var 3) (.cons (.var 5) .nil))) (.cons (.cmp .Lt (.blt .len (.cons (.var 18) .nil)) (.con (.int 2))) .nil)))) (.seq (.ret (.con (.bool false))) .nil) .nil) T18))))
def T11 : Sm := (.seq (.asg 11 (.lst .nil)) (.seq (.forr (.nm 12) .range1 (.cons (.var 2) .nil) (.seq (.forr (.nm 13) .range1 (.cons (.var 2) .nil) (.seq (.ife (.and (.cmp .NotEq (.var 12) (.var 13)) (.and (.cmp .LtE (.idx (.var 3) (.var 12)) (.idx (.var 3) (.var 13))) (.and (.cmp .GtE (.idx (.var 4) (.var 12)) (.idx (.var 4) (.var 13))) (.cmp .LtE (.idx (.var 5) (.var 12)) (.idx (.var 5) (.var 13)))))) (.seq (.ife (.or (.cmp .NotEq (.tup (.cons (.idx (.var 3) (.var 12)) (.cons (.idx (.var 4) (.var 12)) (.cons (.idx (.var 5) (.var 12)) .nil)))) (.tup (.cons (.idx (.var 3) (.var 13)) (.cons (.idx (.var 4) (.var 13)) (.cons (.idx (.var 5) (.var 13)) .nil))))) (.cmp .Lt (.var 12) (.var 13))) (.seq (.exp (.mth .append (.var 11) (.cons (.tup (.cons (.var 12) (.cons (.var 13) .nil))) .nil))) .nil) .nil) .nil) .nil) .nil)) .nil)) (.seq (.ife (.or (.not (.call 2 [false, false] (.cons (.call 13 [false, false, false] (.cons (.var 3) (.cons (.var 4) (.cons (.var 5) .nil)))) (.cons (.blt .tuple (.cons (.var 11) .nil)) .nil)))) (.cmp .NotEq (.idx (.call 12 [false, false, false, false] (.cons (.var 3) (.cons (.var 4) (.cons (.var 5) (.cons (.blt .tuple (.cons (.var 11) .nil)) .nil))))) (.con (.int 0))) (.idx (.blt .min (.cons (.var 8) .nil)) (.con (.int 0))))) (.seq (.ret (.con (.bool false))) .nil) .nil) T14)))
def T8 : Sm := (.seq (.ife (.or (.not (.call 2 [false, false] (.cons (.call 10 [false, false, false, false] (.cons (.var 3) (.cons (.var 4) (.cons (.var 5) (.cons (.var 7) .nil))))) (.cons (.call 18 [false, false, false, false] (.cons (.var 3) (.cons (.var 4) (.cons (.var 5) (.cons (.var 7) .nil))))) .nil)))) (.not (.call 2 [false, false] (.cons (.call 11 [false, false, false] (.cons (.var 3) (.cons (.var 4) (.cons (.var 5) .nil)))) (.cons (.blt .min (.cons (.var 8) .nil)) .nil))))) (.seq (.ret (.con (.bool false))) .nil) .nil) (.seq (.asg 9 (.call 7 [true, false] (.cons (.var 1) (.cons (.var 2) .nil)))) (.seq (.ife (.not (.call 2 [false, false] (.cons (.call 12 [false, false, false, false] (.cons (.var 3) (.cons (.var 4) (.cons (.var 5) (.cons (.var 9) .nil))))) (.cons (.blt .min (.cons (.comp [23, 10] (.nm 10) .plain (.cons (.var 8) .nil) (.cons (.call 5 [false, false] (.cons (.idx (.var 10) (.con (.int 1))) (.cons (.var 9) .nil))) .nil) (.var 10)) .nil)) .nil)))) (.seq (.ret (.con (.bool false))) .nil) .nil) T11)))
def T0 : Sm := (.seq (.asg 1 (.call 0 [false] (.cons (.var 0) .nil))) (.seq (.asg 2 (.call 1 [true, false] (.cons (.var 1) (.cons (.con (.int 7)) .nil)))) (.seq (.asg 3 (.call 6 [true, false, false, false] (.cons (.var 1) (.cons (.var 2) (.cons (.con (.int 1)) (.cons (.con (.int 6)) .nil)))))) (.seq (.asg 4 (.call 6 [true, false, false, false] (.cons (.var 1) (.cons (.var 2) (.cons (.con (.int 0)) (.cons (.con (.int 4)) .nil)))))) (.seq (.asg 5 (.call 6 [true, false, false, false] (.cons (.var 1) (.cons (.var 2) (.cons (.con (.int 0)) (.cons (.con (.int 16)) .nil)))))) (.seq (.asg 6 (.call 3 [false] (.cons (.var 2) .nil))) (.seq (.asg 8 (.comp [23, 7] (.nm 7) .plain (.cons (.var 6) .nil) .nil (.tup (.cons (.call 18 [false, false, false, false] (.cons (.var 3) (.cons (.var 4) (.cons (.var 5) (.cons (.var 7) .nil))))) (.cons (.var 7) .nil))))) (.seq (.asg 7 (.idx (.var 6) (.call 1 [true, false] (.cons (.var 1) (.cons (.blt .len (.cons (.var 6) .nil)) .nil))))) T8))))))))
theorem T_is : f19.body = T0 := rfl
end DM.k05
set_option Elab.async false
set_option linter.all false
set_option maxRecDepth 100000
set_option maxHeartbeats 4000000
/-! LW_k05: the law. -/
namespace DM.k05
open PySem DM
local macro_rules
  | `(tactic| sleep 1) => `(tactic| repeat (first | with_reducible (first | refine wp_seq ?_ | refine wp_con ?_ | refine wp_evs ?_ | refine wp_evs0 ?_ | refine wp_rd_v ?_ | refine wp_rd_f ?_ | refine wp_rds ?_ | refine wp_rds0 ?_ | refine wp_kp_v ?_ | refine wp_kp_f ?_ | refine wp_keeps ?_ | refine wp_keeps0 ?_ | refine wp_bin ?_ | refine wp_idx ?_ | refine wp_blt ?_ | refine wp_cmp ?_ | refine wp_tup ?_ | refine wp_lst ?_ | refine wp_call ?_ | refine wp_and ?_ | refine wp_or ?_ | refine wp_not ?_ | refine wp_ife ?_ | refine wp_slc ?_ | refine wp_asI ?_ | refine wp_neg ?_ | refine IntOk.mk ?_ | refine Tagged.lst ?_ | refine wp_mth ?_ | refine wp_app ?_ | refine wp_tru ?_ | refine o_add ?_ | refine o_sub ?_ | refine cp_eq ?_ | refine cp_ne ?_ | refine cp_lt ?_ | refine cp_gt ?_ | refine cp_le ?_ | refine cp_ge ?_ | refine tr_b ?_ | refine wp_t ?_ | refine wp_f ?_ | refine wp_asg ?_ | refine wp_put_s ?_ | refine wp_retS ?_ | refine wp_retN ?_ | refine wp_ifS ?_ | refine wp_setI ?_ | refine wp_aug ?_ | refine wp_exp ?_ | refine wp_par ?_ | refine wp_sts ?_ | refine wp_sts0 ?_ | refine wp_st_v ?_ | refine wp_st_f ?_ | refine wp_st_s ?_ | refine wp_pa ?_ | refine wp_pa0 ?_ | refine wp_asgT ?_ | refine wp_for ?_ | refine wp_nil ?_ | refine wp_brk ?_ | refine wp_cont ?_ | refine wp_comp ?_ | refine wp_comp2 ?_ | refine wp_tst0 ?_ | refine wp_tst ?_ | refine wp_nm ?_ | refine wp_tu ?_ | refine wp_ts ?_ | refine wp_ts0 ?_ | refine wp_wkvt ?_ | refine wp_wkvl ?_ | refine wp_wkfl ?_ | refine wp_lock0 ?_ | refine wp_wke ?_ | refine g_add ?_ | refine g_sub ?_ | refine wp_bnd ?_ | refine wp_ret ?_ | refine wp_some ?_ | refine b_lenF ?_ | refine b_lenl ?_ | refine b_lent ?_ | refine b_abs ?_ | refine b_int ?_ | refine b_max ?_ | refine b_min ?_ | refine b_sum ?_ | refine b_sumT ?_ | refine b_tup ?_ | refine b_lst ?_ | refine b_lstt ?_) | ((with_reducible apply wp_var_v); exact rfl) | ((with_reducible apply wp_var_o); exact rfl) | ((with_reducible apply wp_rd_s); exact rfl) | ((with_reducible apply wp_rd_sv); exact rfl) | ((with_reducible apply wp_kp_sv); exact rfl) | ((with_reducible apply wp_wks); exact rfl) | ((with_reducible apply Tagged.tup); exact rfl) | ((with_reducible apply wp_lockL); exact rfl) | ((with_reducible apply cp_is); exact rfl) | ((with_reducible apply cp_isn); exact rfl) | ((with_reducible apply o_ixl); exact rfl) | ((with_reducible apply o_ixt); exact rfl) | ((with_reducible apply wp_tt); exact rfl) | ((with_reducible apply wp_ff); exact rfl) | ((with_reducible apply wp_tt); assumption) | ((with_reducible apply wp_ff); assumption) | ((with_reducible refine o_ixF ?_ (by assumption)); intro _) | ((with_reducible apply wp_lockF); exact rfl; (repeat (first | exact SetAt.zero | apply SetAt.succ))) | ((with_reducible apply UnLk.mk); exact rfl; (repeat (first | exact SetAt.zero | apply SetAt.succ))) | ((with_reducible apply Both.mk); (first | exact rfl | exact len60 rfl | assumption)) | ((with_reducible apply b_isaT); exact rfl; (first | exact rfl | assumption)) | ((with_reducible apply b_isaF); exact rfl; (first | exact rfl | assumption)) | ((with_reducible apply wp_appC); exact rfl; (repeat (first | exact SetAt.zero | apply SetAt.succ))) | ((with_reducible apply wp_kp_s); exact rfl; (repeat (first | exact SetAt.zero | apply SetAt.succ))) | ((with_reducible apply wp_put_v); (repeat (first | exact SetAt.zero | apply SetAt.succ)); (first | exact rfl | assumption)) | ((with_reducible apply wp_put_f); (repeat (first | exact SetAt.zero | apply SetAt.succ)); (first | exact rfl | assumption)) | ((with_reducible apply wp_putSl); (repeat (first | exact SetAt.zero | apply SetAt.succ)); (first | exact rfl | assumption)) | ((with_reducible apply wp_setAt); exact rfl; exact rfl; (repeat (first | exact SetAt.zero | apply SetAt.succ)))))
abbrev Qt : Flow → En → Prop := fun fl _ => fl = .ret (.v (.bool true))
abbrev J (k : Nat) : Sl := .val (.int (k : Int))
theorem wp_r1m {n : En} {R : List PyData × List Nat → En → Prop} {b : Nat} {z : Int} (q : R ((List.range (b - 1)).map eN, []) n) (e : z = (b : Int) - 1) (hb : b < 2 ^ 60) : wp (walk .range1 [.v (.int z)]) n R := by
  by_cases h0 : b = 0
  · subst h0
    have e : z = -1 := by omega
    subst e
    exact ⟨_, n, wkr1' (-1) _ (by decide), q⟩
  · exact wp_r1 (b := b - 1) q (by omega) (by omega)
theorem o_mulT {n : En} {R : Opd → En → Prop} {xs : List PyData} {i : Int} (q : R (.v (.tuple (List.replicate i.toNat xs).flatten)) n) (h : xs ≠ [] ∧ 0 ≤ i ∧ i ≤ 1000 ∧ xs.length ≤ 1000) : wp (opt (binD .Mult (.tuple xs) (.int i))) n R := by
  refine wp_opt (a := .v (.tuple (List.replicate i.toNat xs).flatten)) ?_ q
  unfold binD
  exact if_pos h
theorem rep1 (m : Nat) : (List.replicate m [PyData.int 1]).flatten = (ones m).map PyData.int := by
  unfold ones
  induction m with
  | zero => rfl
  | succ m ih => rw [List.replicate_succ, List.flatten_cons, ih]; rfl
section
variable {m : Nat} {t w d : List Int} {o : List Nat}
@[reducible] def eS (t w d : List Int) (o : List Nat) : PyData := .tuple [.int (lsum t w d o), tN o]
theorem eS_B (o : List Nat) : eS t w d o = eB (lsum t w d o, o) := rfl
theorem lv_eS (h : o.length ≤ sizeLine) : LV 2 (eS t w d o) := lv_eB (x := (lsum t w d o, o)) h
theorem ok_eS {l : List (List Nat)} (h : ∀ o ∈ l, o.length ≤ sizeLine) : maxOk (l.map (eS t w d)) = true := maxOk_by (fun a ha b hb => by
    obtain ⟨x, _, rfl⟩ := List.mem_map.mp ha
    obtain ⟨y, _, rfl⟩ := List.mem_map.mp hb
    simp only [eS, tN, W.alike, W.alikeAll, alikeN, Bool.and_self]) (fun a ha => by
    obtain ⟨x, _, rfl⟩ := List.mem_map.mp ha
    rfl) (fun a ha => by
    obtain ⟨x, hx, rfl⟩ := List.mem_map.mp ha
    exact (lv_eS (h x hx)).dok (by decide))
theorem minS {ps : List (Nat × Nat)} (h : Jb m t w d) (hp : PrOk m ps) {o0 : List Nat} (h0 : Ord m o0) (hk0 : kept ps o0 = true) : minL (((ords m m).filter (kept ps)).map (eS t w d)) = eB (leastK t w d ps) := by
  obtain ⟨_, o, ho, hk, e, hmin⟩ := leastK_is h hp h0 hk0
  have hin : ∀ x, Ord m x → kept ps x = true → x ∈ (ords m m).filter (kept ps) := fun x hx hk => List.mem_filter.mpr ⟨hx.ords, hk⟩
  have hne : ((ords m m).filter (kept ps)).map (eS t w d) ≠ [] := fun z => by
    rw [List.map_eq_nil_iff] at z
    have := hin o0 h0 hk0
    rw [z] at this
    exact nomatch this
  obtain ⟨x, hx, ex⟩ := List.mem_map.mp (minL_mem hne)
  have hx2 := List.mem_filter.mp hx
  have hox := ords_ord hx2.1
  have h1 := minL_le (List.mem_map_of_mem (f := eS t w d) (hin o ho hk))
  rw [← ex, eS_B, eS_B, lt_eB] at h1
  have h2 := hmin x hox hx2.2
  have := plt_tot h1 h2
  rw [e, ← ex, eS_B, ← this]
theorem ord0 : Ord m (List.range m) := List.Perm.refl _
theorem prOk0 : PrOk m [] := fun p hp => nomatch hp
theorem minS0 (h : Jb m t w d) : minL ((ords m m).map (eS t w d)) = eB (leastK t w d []) := by
  have := minS h prOk0 ord0 (kept0 _)
  rwa [List.filter_eq_self.mpr fun o _ => kept0 o] at this
theorem least0 (h : Jb m t w d) : ∃ o, Ord m o ∧ leastK t w d [] = (lsum t w d o, o) ∧ ∀ o', Ord m o' → lsum t w d o ≤ lsum t w d o' := by
  obtain ⟨_, o, ho, _, e, hmin⟩ := leastK_is h prOk0 ord0 (kept0 _)
  refine ⟨o, ho, e, fun o' ho' => ?_⟩
  have := hmin o' ho' (kept0 _)
  unfold plt at this
  by_cases e2 : lsum t w d o' = lsum t w d o
  · omega
  · rw [if_neg e2] at this
    have := of_decide_eq_false this
    have : ¬ lsum t w d o' < lsum t w d o := this
    omega
theorem lkl {ps : List (Nat × Nat)} (h : Jb m t w d) (hp : PrOk m ps) {o0 : List Nat} (h0 : Ord m o0) (hk0 : kept ps o0 = true) : LV 2 (eB (leastK t w d ps)) := by
  obtain ⟨_, o, ho, _, e, _⟩ := leastK_is h hp h0 hk0
  rw [e]
  have h6 := h.m6
  have hl := ho.len
  exact lv_eB (x := (lsum t w d o, o)) (by rw [sizeLine_eq]; show o.length ≤ _; omega)
theorem lv_encO {x : Option (List Nat)} (h : ∀ t, x = some t → t.length ≤ 1000) : LV 1 (encO x) := by
  cases x with
  | none => exact .non
  | some t => exact lv_tN (by rw [sizeLine_eq]; have := h t rfl; omega)
theorem ordl (h : Jb m t w d) {x : List Nat} (hx : x ∈ ords m m) : x.length ≤ 6 := by
  have := (ords_ord hx).len
  have := h.m6
  omega
/-- the slot of all orders -/
def SO (m : Nat) (s : Sl) : Prop := s = .own false false (.list ((ords m m).map tN)) ∨ s = .val (.list ((ords m m).map tN))
theorem w23 {X0 X1 X6 X8 X9 X10 X11 X12 X13 x14 x15 X16 X17 X18 X19 X20 : Sl} (h : Jb m t w d) (ho : Ord m o) (o14 : openS x14 = true) (o15 : openS x15 = true) :
    wp (exec (run P 29) T23) [X0, X1, J m, .val (tZ t), .val (tZ w), .val (tZ d), X6, .val (tN o), X8, X9, X10, X11, X12, X13, x14, x15, X16, X17, X18, X19, X20, .emp, .emp, .emp, .emp] Qt := by
  unfold T23
  have h6 := h.m6
  have hl := ho.len
  sleep 1
  refine wp_r1m (b := m) ?_ rfl (by omega)
  sleep 1
  refine wp_forN (fun k n' => ∃ a b, n' = [X0, X1, J m, .val (tZ t), .val (tZ w), .val (tZ d), X6, .val (tN o), X8, X9, X10, X11, X12, X13, a, .val (encO ((nbs o k).find? (lss t w d o))), X16, X17, X18, X19, X20, b, .emp, .emp, .emp] ∧ openS a = true ∧ openS b = true) ⟨_, _, rfl, o14, rfl⟩ ?_ ?_
  · rintro k n' hk ⟨a, b, rfl, oa, ob⟩
    sleep 1
    refine s_to (k := k) ?_ rfl
    sleep 1
    refine o_ogt (k := k + 1) (d := 0) ?_ (by omega) (by omega)
    sleep 1
    refine o_ogt (k := k) (d := 0) ?_ rfl (by omega)
    sleep 1
    refine o_cat (enc := eN) (xs := o.take k) (ys := [o.getD (k + 1) 0, o.getD k 0]) ?_ (by rw [List.length_take, sizeLine_eq]; simp; omega)
    sleep 1
    refine s_from (k := k + 2) ?_ (by omega)
    sleep 1
    refine o_cat ?_ (by rw [List.length_append, List.length_take, List.length_drop, sizeLine_eq]; simp; omega)
    have hO : Ord m (nb o k) := (nb_perm (by omega)).trans ho
    have hnb : List.take k o ++ [o.getD (k + 1) 0, o.getD k 0] ++ List.drop (k + 2) o = nb o k := rfl
    rw [hnb]
    have hf : (nbs o (k + 1)).find? (lss t w d o) = ((nbs o k).find? (lss t w d o)).or ([nb o k].find? (lss t w d o)) := by rw [nbs_succ, List.find?_append]
    rw [hf]
    cases hc : (nbs o k).find? (lss t w d o) with
    | some u =>
      sleep 1
      exact ⟨_, _, rfl, rfl, rfl⟩
    | none =>
      sleep 1
      refine wp_callV rfl rfl rfl rfl ?_ (r_lsum (o := nb o k) h hO)
      sleep 1
      refine wp_callV rfl rfl rfl rfl ?_ (r_lsum h ho)
      sleep 1
      refine wp_if ?_ ?_
      · intro e
        have hless : lss t w d o (nb o k) = true := e
        rw [Option.none_or, List.find?_cons, hless]
        sleep 1
        exact ⟨_, _, rfl, rfl, rfl⟩
      · intro e
        have hless : lss t w d o (nb o k) = false := e
        rw [Option.none_or, List.find?_cons, hless]
        sleep 1
        exact ⟨_, _, rfl, rfl, rfl⟩
  · rintro n' ⟨a, b, rfl, oa, ob⟩
    have hbn : (nbs o (m - 1)).find? (lss t w d o) = bn t w d o := by unfold bn; rw [hl]
    rw [hbn]
    obtain ⟨z, hz, oz, hz0, hzl, hzs⟩ := r_bestn (k := 25) h ho
    sleep 1
    refine wp_callV rfl rfl rfl rfl ?_ (hz)
    clear hz
    sleep 1
    refine wp_callV rfl rfl rfl rfl ?_ (r_bn h ho)
    sleep 1
    refine wp_callV rfl rfl rfl rfl ?_ (r_same (k := 1) (d := encO (bn t w d o)) rfl (lv_encO fun u hu => by
      have hou : Ord m u := (nbs_perm (Nat.le_refl _) (List.mem_of_find?_eq_some hu)).trans ho
      have := hou.len
      omega) 28 (by omega))
    sleep 1
    refine wp_callV rfl rfl rfl rfl ?_ (r_bn h oz)
    rw [hz0]
    sleep 1
    refine b_srtT ?_ (sort_N _)
    rw [srtN_range oz]
    sleep 1
    refine b_listr ?_ (by omega)
    sleep 1
    refine cp_same (k := 1) ?_ (.lst (fun x hx => by
      obtain ⟨_, _, rfl⟩ := List.mem_map.mp hx
      exact .int _) (by rw [List.length_map, List.length_range, sizeLine_eq]; omega)) (by omega)
    sleep 1
    refine wp_callV rfl rfl rfl rfl ?_ (r_lsum h oz)
    sleep 1
    refine wp_callV rfl rfl rfl rfl ?_ (r_lsum h ho)
    generalize lsum t w d z = v1 at hzl ⊢
    generalize lsum t w d o = v2 at hzl ⊢
    sleep 1
    refine wp_tt (decide_eq_true hzl) ?_
    sleep 1
    cases hb : bn t w d o with
    | some u =>
      sleep 1
      rfl
    | none =>
      have e := hzs hb
      subst e
      sleep 1
      refine cp_same (k := 1) ?_ (lv_tN (by rw [sizeLine_eq]; omega)) (by omega)
      sleep 1
      rfl
abbrev S8 (m : Nat) (t w d : List Int) : Sl := .own false false (.list ((ords m m).map (eS t w d)))
theorem w20 {X0 X1 X6 X9 x10 X11 X12 X13 x14 x15 X16 x17 X18 X19 x20 : Sl} (h : Jb m t w d) (ho : Ord m o) (s6 : SO m X6) (o10 : openS x10 = true) (f14 : FS x14) (f15 : FS x15) (o17 : openS x17 = true) (o20 : openS x20 = true) :
    wp (exec (run P 29) T20) [X0, X1, J m, .val (tZ t), .val (tZ w), .val (tZ d), X6, .val (tN o), S8 m t w d, X9, x10, X11, X12, X13, x14, x15, X16, x17, X18, X19, x20, .emp, .emp, .emp, .emp] Qt := by
  unfold T20
  have h6 := h.m6
  have htl := h.tl
  have hwl := h.wl
  have hdl := h.dl
  have o14 := f14.op
  have o15 := f15.op
  have hsz := ords_size (m := m) (t := m) (by omega) (Nat.le_refl _)
  rcases s6 with rfl | rfl
  all_goals
    sleep 1
    refine wp_forT (T := List Nat) (ts := ords m m) (enc := tN) (fun done n' => ∃ a b, n' = [X0, X1, J m, .val (tZ t), .val (tZ w), .val (tZ d), _, .val (tN o), S8 m t w d, X9, a, X11, X12, X13, x14, x15, X16, b, X18, X19, .own false false (.list ((done.map (bsum t w d)).map .int)), .emp, .emp, .emp, .emp] ∧ openS a = true ∧ openS b = true) ⟨_, _, rfl, o10, o17⟩ ?_ ?_
    · rintro done x rest n' e ⟨a, b, rfl, oa, ob⟩
      have hx : x ∈ ords m m := by rw [e]; simp
      have hox := ords_ord hx
      have hxl := hox.len
      have hel := ends_len t x
      have hdn : done.length < 1000000 := by
        have := congrArg List.length e
        rw [List.length_append, List.length_cons] at this
        omega
      sleep 1
      refine wp_callV rfl rfl rfl rfl ?_ (r_lends rfl (h.lt hox) (by omega))
      sleep 1
      refine wp_r1 (b := m) ?_ rfl (by omega)
      sleep 1
      refine wp_blockM (T := Nat) (fun j => .int (ig w j * (ig (ends t x) j - ig d j))) (by rcases f14 with rfl | ⟨d, rfl⟩ <;> rfl) (by repeat (first | exact SetAt.zero | apply SetAt.succ | exact Wiped.nil | apply Wiped.cons)) (fun j hj => ?_) ?_ (by rw [List.length_range, sizeLine_eq]; omega)
      · have hj := List.mem_range.mp hj
        have hw := h.wp (j := j) (by omega)
        sleep 1
        refine o_igt ?_ rfl (by omega)
        sleep 1
        refine o_igt ?_ rfl (by omega)
        sleep 1
        refine o_igt ?_ rfl (by omega)
        sleep 1
        refine o_mul ?_ (.inl (by omega))
        sleep 1
        exact ⟨rfl, by repeat (first | exact SetAt.zero | apply SetAt.succ | exact Wiped.nil | apply Wiped.cons)⟩
      · rw [map_of (g := PyData.int) (h := fun j => ig w j * (ig (ends t x) j - ig d j)) (fun _ => rfl)]
        sleep 1
        · have eb : ((List.range m).map fun j => ig w j * (ig (ends t x) j - ig d j)).sum = bsum t w d x := by unfold bsum; rw [htl]
          rw [eb]
          refine ⟨.val (tN x), .val (tZ (ends t x)), ?_, rfl, rfl⟩
          rw [List.map_append (l₂ := [x]), List.map_append]
          rfl
        · rw [List.length_map, List.length_map, sizeLine_eq]; omega
    · rintro n' ⟨a, b, rfl, oa, ob⟩
      obtain ⟨bo, hb, hbo, hbm⟩ := r_bound (k := 27) h
      obtain ⟨lo, hlo, elo, hlm⟩ := least0 h
      have hne : (ords m m).map (bsum t w d) ≠ [] := by simpa using ords_ne m
      have hmin : minZ ((ords m m).map (bsum t w d)) = bsum t w d bo := by
        obtain ⟨y, hy, ey⟩ := List.mem_map.mp (minZ_mem hne)
        have h1 := minZ_le (List.mem_map_of_mem (f := bsum t w d) hbo.ords)
        have h2 := hbm y (ords_ord hy)
        omega
      have hle : ¬ bsum t w d bo > lsum t w d lo := by
        have h1 := hbm lo hlo
        have h2 := bsum_le h lo
        omega
      sleep 1
      refine wp_callV rfl rfl rfl rfl ?_ (hb)
      clear hb
      sleep 1
      refine b_minZ ?_ hne
      rw [hmin]
      sleep 1
      refine wp_callV rfl rfl rfl rfl ?_ (r_same (k := 0) rfl (.int _) 28 (by omega))
      sleep 1
      refine b_minZ ?_ hne
      rw [hmin]
      sleep 1
      refine b_minL ?_ (by simpa using ords_ne m) (ok_eS fun x hx => by have := ordl h hx; rw [sizeLine_eq]; omega)
      rw [minS0 h, elo]
      generalize bsum t w d bo = v1 at hle ⊢
      generalize lsum t w d lo = v2 at hle ⊢
      sleep 1
      refine wp_ff (decide_eq_false hle) ?_
      sleep 1
      exact w23 h ho o14 o15
theorem w18 {X0 X1 X6 X9 x10 X11 X12 X13 x14 x15 x17 x19 x20 : Sl} (h : Jb m t w d) (ho : Ord m o) (s6 : SO m X6) (f10 : FS x10) (f14 : FS x14) (f15 : FS x15) (o17 : openS x17 = true) (o19 : openS x19 = true) (o20 : openS x20 = true) :
    wp (exec (run P 29) T18) [X0, X1, J m, .val (tZ t), .val (tZ w), .val (tZ d), X6, .val (tN o), S8 m t w d, X9, x10, X11, X12, X13, x14, x15, .val (tN (edd d m)), x17, .own false false (.list ((late t d m).map eN)), x19, x20, .emp, .emp, .emp, .emp] Qt := by
  unfold T18
  have h6 := h.m6
  have o10 := f10.op
  have hsz := ords_size (m := m) (t := m) (by omega) (Nat.le_refl _)
  sleep 1
  refine o_mulT ?_ ⟨by simp, by omega, by omega, by simp⟩
  rw [Int.toNat_natCast, rep1]
  sleep 1
  rw [List.length_map]
  refine wp_if ?_ ?_
  · intro hl
    have hl : (late t d m).length < 2 := by have := of_decide_eq_true hl; omega
    have hone := fun x (hx : x ∈ ords m m) => one_late h hl (ords_ord hx)
    have hne : (ords m m).map (lsum t (ones m) d) ≠ [] := by simpa using ords_ne m
    have hmin : minZ ((ords m m).map (lsum t (ones m) d)) = lsum t (ones m) d (edd d m) := by
      obtain ⟨y, hy, ey⟩ := List.mem_map.mp (minZ_mem hne)
      have h1 := minZ_le (List.mem_map_of_mem (f := lsum t (ones m) d) (edd_ord (d := d) (m := m)).ords)
      have h2 := hone y hy
      omega
    sleep 1
    refine wp_callV rfl rfl rfl rfl ?_ (r_lsum h.ones edd_ord)
    have s6' := s6
    rcases s6 with rfl | rfl
    all_goals
      sleep 1
      refine wp_blockM (T := List Nat) (ts := ords m m) (enc := tN) (fun x => .int (lsum t (ones m) d x)) (by rcases f10 with rfl | ⟨d, rfl⟩ <;> rfl) (by repeat (first | exact SetAt.zero | apply SetAt.succ | exact Wiped.nil | apply Wiped.cons)) (fun x hx => ?_) ?_ (by rw [sizeLine_eq]; omega)
      · sleep 1
        refine wp_callV rfl rfl rfl rfl ?_ (r_lsum h.ones (ords_ord hx))
        sleep 1
        exact ⟨rfl, by repeat (first | exact SetAt.zero | apply SetAt.succ | exact Wiped.nil | apply Wiped.cons)⟩
      · rw [map_of (g := PyData.int) (h := lsum t (ones m) d) (fun _ => rfl)]
        sleep 1
        refine b_minZ ?_ hne
        rw [hmin]
        sleep 1
        refine wp_ff (decide_eq_false (fun z => z rfl)) ?_
        sleep 1
        exact w20 h ho s6' o10 f14 f15 o17 o20
  · intro hl
    sleep 1
    exact w20 h ho s6 o10 f14 f15 o17 o20
theorem w14 {X0 X1 X6 X9 x10 X11 X12 X13 x14 x15 x16 x17 x18 x19 x20 : Sl} (h : Jb m t w d) (ho : Ord m o) (s6 : SO m X6) (f10 : FS x10) (f14 : FS x14) (f15 : FS x15) (o16 : openS x16 = true) (o17 : openS x17 = true) (o18 : openS x18 = true) (o19 : openS x19 = true) (o20 : openS x20 = true) :
    wp (exec (run P 29) T14) [X0, X1, J m, .val (tZ t), .val (tZ w), .val (tZ d), X6, .val (tN o), S8 m t w d, X9, x10, X11, X12, X13, x14, x15, x16, x17, x18, x19, x20, .emp, .emp, .emp, .emp] Qt := by
  unfold T14
  have h6 := h.m6
  have hdl := h.dl
  have htl := h.tl
  have hE : Ord m (edd d m) := edd_ord
  have hEl := hE.len
  have hel := ends_len t (edd d m)
  sleep 1
  refine wp_r1 (b := m) ?_ rfl (by omega)
  sleep 1
  refine wp_blockM (T := Nat) (fun j => eP (ig d j, j)) (by rcases f14 with rfl | ⟨d, rfl⟩ <;> rfl) (by repeat (first | exact SetAt.zero | apply SetAt.succ | exact Wiped.nil | apply Wiped.cons)) (fun j hj => ?_) ?_ (by rw [List.length_range, sizeLine_eq]; omega)
  · have hj := List.mem_range.mp hj
    sleep 1
    refine o_igt ?_ rfl (by omega)
    sleep 1
    exact ⟨rfl, by repeat (first | exact SetAt.zero | apply SetAt.succ | exact Wiped.nil | apply Wiped.cons)⟩
  · rw [map_of (g := eP) (h := fun j => (ig d j, j)) (fun _ => rfl)]
    sleep 1
    refine b_srt ?_ (sort_eP _)
    sleep 1
    refine wp_blockM (T := Int × Nat) (enc := eP) (fun x => .int (x.2 : Int)) (by rcases f15 with rfl | ⟨d, rfl⟩ <;> rfl) (by repeat (first | exact SetAt.zero | apply SetAt.succ | exact Wiped.nil | apply Wiped.cons)) (fun x hx => ?_) ?_ ?_
    · sleep 1
      exact ⟨rfl, by repeat (first | exact SetAt.zero | apply SetAt.succ | exact Wiped.nil | apply Wiped.cons)⟩
    · rw [tup2]
      rw [show (srtE eP ((List.range m).map fun j => (ig d j, j))).map (·.2) = edd d m from rfl]
      sleep 1
      refine wp_callV rfl rfl rfl rfl ?_ (r_lends rfl (h.lt hE) (by omega))
      sleep 1
      refine wp_r1 (b := m) ?_ rfl (by omega)
      sleep 1
      refine wp_blockF (T := Nat) (fun j => decide (ig (ends t (edd d m)) j > ig d j)) (fun j => eN j) (by rcases f14 with rfl | ⟨d, rfl⟩ <;> rfl) (by repeat (first | exact SetAt.zero | apply SetAt.succ | exact Wiped.nil | apply Wiped.cons)) (fun j hj => ?_) ?_ (by rw [List.length_range, sizeLine_eq]; omega)
      · have hj := List.mem_range.mp hj
        sleep 1
        refine o_igt ?_ rfl (by omega)
        sleep 1
        refine o_igt ?_ rfl (by omega)
        sleep 1
        refine wp_if ?_ ?_
        · intro e
          sleep 1
          exact ⟨by rw [if_pos e], by repeat (first | exact SetAt.zero | apply SetAt.succ | exact Wiped.nil | apply Wiped.cons)⟩
        · intro e
          sleep 1
          exact ⟨by rw [e]; rfl, by repeat (first | exact SetAt.zero | apply SetAt.succ | exact Wiped.nil | apply Wiped.cons)⟩
      · sleep 1
        refine wp_callV rfl rfl rfl rfl ?_ (r_one h)
        sleep 1
        rw [List.length_map]
        have e : decide ((((late t d m).length : Nat) : Int) < 2) = decide ((late t d m).length < 2) := decide_eq_decide.mpr (by omega)
        have e2 : ((List.range m).filter fun j => decide (ig (ends t (edd d m)) j > ig d j)) = late t d m := rfl
        rw [e2, e]
        sleep 1
        refine wp_callV rfl rfl rfl rfl ?_ (r_same (k := 0) rfl (.bool _) 28 (by omega))
        sleep 1
        exact w18 h ho s6 f10 f14 f15 rfl o19 o20
    · rw [(srtE_perm eP _).length_eq, List.length_map, List.length_range, sizeLine_eq]; omega
theorem w11 {X0 X1 X6 X9 x10 x11 x12 x13 x14 x15 x16 x17 x18 x19 x20 : Sl} (h : Jb m t w d) (ho : Ord m o) (s6 : SO m X6) (f10 : FS x10) (o11 : openS x11 = true) (o12 : openS x12 = true) (o13 : openS x13 = true) (f14 : FS x14) (f15 : FS x15) (o16 : openS x16 = true) (o17 : openS x17 = true) (o18 : openS x18 = true) (o19 : openS x19 = true) (o20 : openS x20 = true) :
    wp (exec (run P 29) T11) [X0, X1, J m, .val (tZ t), .val (tZ w), .val (tZ d), X6, .val (tN o), S8 m t w d, X9, x10, x11, x12, x13, x14, x15, x16, x17, x18, x19, x20, .emp, .emp, .emp, .emp] Qt := by
  unfold T11
  have h6 := h.m6
  have htl := h.tl
  have hwl := h.wl
  have hdl := h.dl
  sleep 1
  refine wp_r1 (b := m) ?_ rfl (by omega)
  sleep 1
  refine wp_forN (fun a n' => ∃ x y, n' = [X0, X1, J m, .val (tZ t), .val (tZ w), .val (tZ d), X6, .val (tN o), S8 m t w d, X9, x10, .own false false (.list ((surN m t w d a).map eN2)), x, y, x14, x15, x16, x17, x18, x19, x20, .emp, .emp, .emp, .emp] ∧ openS x = true ∧ openS y = true) ⟨_, _, rfl, o12, o13⟩ ?_ ?_
  · rintro a n' ha ⟨x, y, rfl, ox, oy⟩
    have hN := surN_len (m := m) (t := t) (w := w) (d := d) a
    have hN2 : a * m ≤ 36 := Nat.mul_le_mul (show a ≤ 6 by omega) h6
    sleep 1
    refine wp_r1 (b := m) ?_ rfl (by omega)
    sleep 1
    refine wp_forN (fun b n' => ∃ y, n' = [X0, X1, J m, .val (tZ t), .val (tZ w), .val (tZ d), X6, .val (tN o), S8 m t w d, X9, x10, .own false false (.list ((surN m t w d a ++ surA m t w d a b).map eN2)), J a, y, x14, x15, x16, x17, x18, x19, x20, .emp, .emp, .emp, .emp] ∧ openS y = true) ⟨_, by rw [show surA m t w d a 0 = [] from rfl, List.append_nil], oy⟩ ?_ ?_
    · rintro b n' hb ⟨y, rfl, oy⟩
      have hA := surA_len (m := m) (t := t) (w := w) (d := d) a b
      sleep 1
      rw [natne]
      refine wp_andR (q := decide (ig t a ≤ ig t b) && (decide (ig w a ≥ ig w b) && decide (ig d a ≤ ig d b))) (fun _ => ?_) ?_
      · sleep 1
        refine o_igt ?_ rfl (by omega)
        sleep 1
        refine o_igt ?_ rfl (by omega)
        sleep 1
        refine wp_andR (fun _ => ?_) ⟨rfl, rfl⟩
        sleep 1
        refine o_igt ?_ rfl (by omega)
        sleep 1
        refine o_igt ?_ rfl (by omega)
        sleep 1
        refine wp_andR (fun _ => ?_) ⟨rfl, rfl⟩
        sleep 1
        refine o_igt ?_ rfl (by omega)
        sleep 1
        refine o_igt ?_ rfl (by omega)
        sleep 1
        exact ⟨rfl, rfl⟩
      · sleep 1
        refine wp_if ?_ ?_
        · intro e
          have e : surL t w d a b = true := e
          sleep 1
          refine o_igt ?_ rfl (by omega)
          sleep 1
          refine o_igt ?_ rfl (by omega)
          sleep 1
          refine o_igt ?_ rfl (by omega)
          sleep 1
          refine o_igt ?_ rfl (by omega)
          sleep 1
          refine o_igt ?_ rfl (by omega)
          sleep 1
          refine o_igt ?_ rfl (by omega)
          sleep 1
          refine cp_ne3 ?_
          sleep 1
          refine wp_orR (p := !alik t w d a b) (q := decide (a < b)) (fun _ => ?_) ?_
          · sleep 1
            exact ⟨by rw [natlt], rfl⟩
          · sleep 1
            refine wp_if ?_ ?_
            · intro e2
              have e3 : surB t w d a b = true := by unfold surB; rw [e, e2]; rfl
              sleep 1
              · refine ⟨J b, ?_, rfl⟩
                rw [surA_succ, if_pos e3, ← List.append_assoc, List.map_append (l₂ := [(a, b)])]
                rfl
              · rw [List.length_map, List.length_append, sizeLine_eq]; omega
            · intro e2
              have e3 : surB t w d a b = false := by unfold surB; rw [e, e2]; rfl
              sleep 1
              refine ⟨J b, ?_, rfl⟩
              rw [surA_succ, e3, if_neg (by decide), List.append_nil]
        · intro e
          have e : surL t w d a b = false := e
          have e3 : surB t w d a b = false := by unfold surB; rw [e]; rfl
          sleep 1
          refine ⟨J b, ?_, rfl⟩
          rw [surA_succ, e3, if_neg (by decide), List.append_nil]
    · rintro n' ⟨y, rfl, oy⟩
      sleep 1
      exact ⟨_, _, by rw [surN_succ], rfl, oy⟩
  · rintro n' ⟨x, y, rfl, ox, oy⟩
    have hsl : (sur m t w d).length ≤ 36 := Nat.le_trans (surN_len (m := m) (t := t) (w := w) (d := d) m) (Nat.mul_le_mul h6 h6)
    have hsN : surN m t w d m = sur m t w d := rfl
    rw [hsN]
    obtain ⟨lo, hlo, elo, hlm⟩ := least0 h
    obtain ⟨so, hso, hsk, hsle⟩ := sure_opt h hlo
    obtain ⟨_, so2, ho2, hk2, e2, hm2⟩ := leastK_is h sur_ok hso hsk
    have heq : lsum t w d so2 = lsum t w d lo := by
      have h1 := hm2 so hso hsk
      unfold plt at h1
      have h2 := hlm so2 ho2
      by_cases e3 : lsum t w d so = lsum t w d so2
      · omega
      · rw [if_neg e3] at h1
        have h1 := of_decide_eq_false h1
        have h1 : ¬ lsum t w d so < lsum t w d so2 := h1
        omega
    sleep 1
    refine wp_callV rfl rfl rfl rfl ?_ (r_sure h)
    sleep 1
    refine wp_callV rfl rfl rfl rfl ?_ (r_same (k := 2) (d := tP (sur m t w d)) rfl (.tup (fun x hx => by
      obtain ⟨p, _, rfl⟩ := List.mem_map.mp hx
      exact .tup (fun z hz => by
        rcases List.mem_cons.mp hz with rfl | hz
        · exact .int _
        · rw [List.mem_singleton.mp hz]; exact .int _) (len60 rfl)) (by rw [List.length_map, sizeLine_eq]; omega)) 28 (by omega))
    sleep 1
    refine wp_callV rfl rfl rfl rfl ?_ (r_lkept (ps := sur m t w d) h sur_ok (by omega) hso hsk)
    rw [e2]
    sleep 1
    refine b_minL ?_ (by simpa using ords_ne m) (ok_eS fun x hx => by have := ordl h hx; rw [sizeLine_eq]; omega)
    rw [minS0 h, elo]
    sleep 1
    refine wp_ff (decide_eq_false (fun z => z heq)) ?_
    sleep 1
    exact w14 h ho s6 f10 f14 f15 o16 o17 o18 o19 o20
theorem w8 {ns : List Int} {X0 X6 x9 x10 x11 x12 x13 x14 x15 x16 x17 x18 x19 x20 : Sl} {s : PyData} (hs : StOk ns s) (h : Jb m t w d) (ho : Ord m o) (s6 : SO m X6) (o9 : openS x9 = true) (f10 : FS x10) (o11 : openS x11 = true) (o12 : openS x12 = true) (o13 : openS x13 = true) (f14 : FS x14) (f15 : FS x15) (o16 : openS x16 = true) (o17 : openS x17 = true) (o18 : openS x18 = true) (o19 : openS x19 = true) (o20 : openS x20 = true) :
    wp (exec (run P 29) T8) [X0, .own false false s, J m, .val (tZ t), .val (tZ w), .val (tZ d), X6, .val (tN o), S8 m t w d, x9, x10, x11, x12, x13, x14, x15, x16, x17, x18, x19, x20, .emp, .emp, .emp, .emp] Qt := by
  unfold T8
  have h6 := h.m6
  have hsz := ords_size (m := m) (t := m) (by omega) (Nat.le_refl _)
  sleep 1
  refine wp_callV rfl rfl rfl rfl ?_ (r_tard h ho)
  sleep 1
  refine wp_callV rfl rfl rfl rfl ?_ (r_lsum h ho)
  sleep 1
  refine wp_callV rfl rfl rfl rfl ?_ (r_same (k := 0) rfl (.int _) 28 (by omega))
  sleep 1
  refine wp_callV rfl rfl rfl rfl ?_ (r_least h)
  sleep 1
  refine b_minL ?_ (by simpa using ords_ne m) (ok_eS fun x hx => by have := ordl h hx; rw [sizeLine_eq]; omega)
  rw [minS0 h]
  sleep 1
  refine wp_callV rfl rfl rfl rfl ?_ (r_same (k := 2) rfl (lkl h prOk0 ord0 (kept0 _)) 28 (by omega))
  sleep 1
  obtain ⟨s2, ps, oo, hr, hs2, hpl, hoo, hah⟩ := r_pairs (k := 27) (i := 7) (pk := 1) (p := P) (m := m) rfl rfl hs (by omega)
  have hp : PrOk m ps := fun p hp => by
    obtain ⟨h1, h2, h3⟩ := hah p hp
    exact ⟨hoo.lt h1, hoo.lt h2, fun e => by rw [e] at h3; omega⟩
  have hk0 : kept ps oo = true := by
    unfold kept
    rw [decide_eq_true_eq, List.filter_eq_nil_iff]
    intro p hp hgt
    have := (hah p hp).2.2
    have : pos oo p.1 > pos oo p.2 := of_decide_eq_true hgt
    omega
  refine wp_callV rfl rfl rfl rfl ?_ (hr)
  clear hr
  sleep 1
  refine wp_callV rfl rfl rfl rfl ?_ (r_lkept h hp (by omega) hoo hk0)
  sleep 1
  refine wp_blockF (T := List Nat) (ts := ords m m) (enc := eS t w d) (kept ps) (eS t w d) (by rcases f10 with rfl | ⟨d, rfl⟩ <;> rfl) (by repeat (first | exact SetAt.zero | apply SetAt.succ | exact Wiped.nil | apply Wiped.cons)) (fun x hx => ?_) ?_ (by rw [sizeLine_eq]; omega)
  · have hox := ords_ord hx
    have hxl := hox.len
    sleep 1
    refine wp_callV rfl rfl rfl rfl ?_ (r_kept (i := 5) rfl (fun p hp' => ⟨(hp.mem hox p hp').1, (hp.mem hox p hp').2.1⟩) (by omega) (by omega))
    sleep 1
    refine wp_if ?_ ?_
    · intro e
      sleep 1
      exact ⟨by rw [if_pos e], by repeat (first | exact SetAt.zero | apply SetAt.succ | exact Wiped.nil | apply Wiped.cons)⟩
    · intro e
      sleep 1
      exact ⟨by rw [e]; rfl, by repeat (first | exact SetAt.zero | apply SetAt.succ | exact Wiped.nil | apply Wiped.cons)⟩
  · have hne : ((ords m m).filter (kept ps)).map (eS t w d) ≠ [] := fun z => by
      rw [List.map_eq_nil_iff] at z
      have : oo ∈ (ords m m).filter (kept ps) := List.mem_filter.mpr ⟨hoo.ords, hk0⟩
      rw [z] at this
      exact nomatch this
    sleep 1
    refine b_minL ?_ hne (ok_eS fun x hx => by have := ordl h (List.mem_filter.mp hx).1; rw [sizeLine_eq]; omega)
    rw [minS h hp hoo hk0]
    sleep 1
    refine wp_callV rfl rfl rfl rfl ?_ (r_same (k := 2) rfl (lkl h hp hoo hk0) 28 (by omega))
    sleep 1
    exact w11 h ho s6 f10 o11 o12 o13 f14 f15 o16 o17 o18 o19 o20
theorem hrun (ns : List Int) (hns : ns.length ≤ 63) : ∃ fin, run P 30 19 [.val (FL (ns.map .int))] = .ok false (.bool true) fin := by
  have go : ∃ fr d fin, run P 30 19 [.val (FL (ns.map .int))] = .ok fr d fin ∧ fr = false ∧ d = .bool true := by
    refine run_ex (k := 29) (n0 := [_, .emp, .emp, .emp, .emp, .emp, .emp, .emp, .emp, .emp, .emp, .emp, .emp, .emp, .emp, .emp, .emp, .emp, .emp, .emp, .emp, .emp, .emp, .emp, .emp]) rfl rfl (Nat.le_of_ble_eq_true rfl) rfl ?_
    suffices h : wp (exec (run P 29) T0) [.val (FL (ns.map .int)), .emp, .emp, .emp, .emp, .emp, .emp, .emp, .emp, .emp, .emp, .emp, .emp, .emp, .emp, .emp, .emp, .emp, .emp, .emp, .emp, .emp, .emp, .emp, .emp] Qt from wp_mono h fun fl n' h => by
      have h : fl = .ret (.v (.bool true)) := h
      subst h
      exact ⟨_, _, _, rfl, rfl, rfl⟩
    unfold T0
    sleep 1
    obtain ⟨s0, e0, k0⟩ := r_start (p := P) (i := 0) (k := 28) (ns := ns) rfl
    refine wp_callF rfl rfl rfl rfl ?_ (e0)
    clear e0
    sleep 1
    obtain ⟨s1, d1, e1, k1, a1, b1⟩ := r_pick (k := 28) (i := 1) (p := P) (l := 7) rfl k0 (by omega) (by omega)
    refine wp_callV rfl rfl rfl rfl ?_ (e1)
    clear e1
    obtain ⟨m, rfl⟩ : ∃ n : Nat, d1 = (n : Int) := ⟨d1.toNat, by omega⟩
    sleep 1
    obtain ⟨s2, t, e2, k2, l2, v2⟩ := r_row (k := 27) (i := 6) (pk := 1) (p := P) (m := m) (lo := 1) (hi := 6) rfl rfl k1 (by omega) (by omega) (by omega)
    refine wp_callV rfl rfl rfl rfl ?_ (e2)
    clear e2
    sleep 1
    obtain ⟨s3, w, e3, k3, l3, v3⟩ := r_row (k := 27) (i := 6) (pk := 1) (p := P) (m := m) (lo := 0) (hi := 4) rfl rfl k2 (by omega) (by omega) (by omega)
    refine wp_callV rfl rfl rfl rfl ?_ (e3)
    clear e3
    sleep 1
    obtain ⟨s4, d, e4, k4, l4, v4⟩ := r_row (k := 27) (i := 6) (pk := 1) (p := P) (m := m) (lo := 0) (hi := 16) rfl rfl k3 (by omega) (by omega) (by omega)
    refine wp_callV rfl rfl rfl rfl ?_ (e4)
    clear e4
    sleep 1
    have h : Jb m t w d := ⟨by omega, l2, l3, l4, v2, v3, v4⟩
    have h6 := h.m6
    have hsz := ords_size (m := m) (t := m) (by omega) (Nat.le_refl _)
    have ho0 : 0 < (ords m m).length := List.length_pos_iff.mpr (ords_ne _)
    have hord := r_orders (i := 3) (k := 28) (p := P) (m := m) rfl (by omega)
    by_cases hm : m = 0
    all_goals
      first
        | (rw [decide_eq_true hm] at hord
           refine wp_callF rfl rfl rfl rfl ?_ (hord))
        | (rw [decide_eq_false hm] at hord
           refine wp_callV rfl rfl rfl rfl ?_ (hord))
      sleep 1
      refine wp_blockM (T := List Nat) (ts := ords m m) (enc := tN) (eS t w d) rfl (by repeat (first | exact SetAt.zero | apply SetAt.succ | exact Wiped.nil | apply Wiped.cons)) (fun x hx => ?_) ?_ (by rw [sizeLine_eq]; omega)
      · sleep 1
        refine wp_callV rfl rfl rfl rfl ?_ (r_lsum h (ords_ord hx))
        sleep 1
        exact ⟨rfl, by repeat (first | exact SetAt.zero | apply SetAt.succ | exact Wiped.nil | apply Wiped.cons)⟩
      · sleep 1
        rw [List.length_map]
        obtain ⟨s5, d5, e5, k5, a5, b5⟩ := r_pick (k := 28) (i := 1) (p := P) (l := ((ords m m).length : Int)) rfl k4 (by omega) (by omega)
        refine wp_callV rfl rfl rfl rfl ?_ (e5)
        clear e5
        sleep 1
        refine o_ogl (k := d5.toNat) ?_ (by omega) (by omega)
        have ho : Ord m (og (ords m m) d5.toNat) := ords_ord (by
          unfold og
          rw [List.getD_eq_getElem?_getD, List.getElem?_eq_getElem (by omega)]
          exact List.getElem_mem _)
        generalize og (ords m m) d5.toNat = o at ho ⊢
        sleep 1
        exact w8 k5 h ho (by first | exact .inl rfl | exact .inr rfl) rfl FS.emp rfl rfl rfl FS.emp FS.emp rfl rfl rfl rfl rfl
  obtain ⟨fr, d, fin, e, rfl, rfl⟩ := go
  exact ⟨fin, e⟩
end
end DM.k05
set_option Elab.async false
set_option linter.all false
set_option maxRecDepth 100000
/-! GT_k05: the table of defs; the head. -/
namespace DM.k05
open PySem PySem.Spec PyProof.Rows L2
def top (i : Nat) : Stmt := PySem.Challenge.pw_jobwright_k05_whole_sums_of_lateness.main.body.getD i (.Pass ⟨0, 0, 0, 0⟩)
abbrev ent0 : Ent := ⟨"_law_start", [false], ["script"], ["script"], top 14, b0⟩
abbrev ent1 : Ent := ⟨"_law_pick", [true, false], ["state", "limit", "cell", "drawn"], ["state", "limit"], top 15, b1⟩
abbrev ent2 : Ent := ⟨"_law_same", [false, false], ["told", "due", ".0", "k"], ["told", "due"], top 16, b2⟩
abbrev ent3 : Ent := ⟨"_law_orders", [false], ["many", "found", "turn", "longer", "row", ".0", "k"], ["many"], top 17, b3⟩
abbrev ent4 : Ent := ⟨"_law_ends", [false, false], ["times", "order", "found", "here", "job"], ["times", "order"], top 18, b4⟩
abbrev ent5 : Ent := ⟨"_law_kept", [false, false], ["order", "pairs", ".0", "a", "b"], ["order", "pairs"], top 19, b5⟩
abbrev ent6 : Ent := ⟨"_law_row", [true, false, false, false], ["state", "many", "least", "most", ".0", "k"], ["state", "many", "least", "most"], top 20, b6⟩
abbrev ent7 : Ent := ⟨"_law_pairs", [true, false], ["state", "many", "order", "k", "j", "found", "i", ".0"], ["state", "many"], top 21, b7⟩
abbrev ent8 : Ent := ⟨"ends_in", [false, false], ["times", "order", "found", "here", "job"], ["times", "order"], top 1, b8⟩
abbrev ent9 : Ent := ⟨"by_dues", [false], ["dues", ".0", "due", "job"], ["dues"], top 3, b9⟩
abbrev ent10 : Ent := ⟨"tardiness", [false, false, false, false], ["times", "weights", "dues", "order", "ends", ".0", "job"], ["times", "weights", "dues", "order"], top 5, b10⟩
abbrev ent11 : Ent := ⟨"least_tardy", [false, false, false], ["times", "weights", "dues"], ["times", "weights", "dues"], top 6, b11⟩
abbrev ent12 : Ent := ⟨"least_tardy_kept", [false, false, false, false], ["times", "weights", "dues", "pairs", "many", "level", "turn", "later", "mask", "lost", "row", "job", "key", "end", "here", ".0", "a", "b", "one"], ["times", "weights", "dues", "pairs"], top 7, b12⟩
abbrev ent13 : Ent := ⟨"sure_pairs", [false, false, false], ["times", "weights", "dues", "found", "a", "b", "alike"], ["times", "weights", "dues"], top 8, b13⟩
abbrev ent14 : Ent := ⟨"is_one_late", [false, false], ["times", "dues", "ends", ".0", "job"], ["times", "dues"], top 9, b14⟩
abbrev ent15 : Ent := ⟨"all_late_bound", [false, false, false], ["times", "weights", "dues", "many", "job", "row", "best", "at", "ends", ".0"], ["times", "weights", "dues"], top 10, b15⟩
abbrev ent16 : Ent := ⟨"better_neighbours", [false, false, false, false], ["times", "weights", "dues", "order", "here", "k", "there"], ["times", "weights", "dues", "order"], top 11, b16⟩
abbrev ent17 : Ent := ⟨"best_by_neighbours", [false, false, false, false], ["times", "weights", "dues", "order", "there"], ["times", "weights", "dues", "order"], top 12, b17⟩
abbrev ent18 : Ent := ⟨"_law_sum", [false, false, false, false], ["times", "weights", "dues", "order", "ends", ".0", "k"], ["times", "weights", "dues", "order"], top 22, b18⟩
abbrev ent19 : Ent := ⟨"law", [false], ["script", "state", "many", "times", "weights", "dues", "orders", "order", "sums", "pairs", "one", "sure", "a", "b", "k", "due", "row", "ends", "late", "plain", "bounds", "there", "best", ".0", "job"], ["script"], top 23, b19⟩
abbrev es : List Ent := [ent0, ent1, ent2, ent3, ent4, ent5, ent6, ent7, ent8, ent9, ent10, ent11, ent12, ent13, ent14, ent15, ent16, ent17, ent18, ent19]
abbrev B : List Str := ["len", "abs", "sum", "max", "min", "sorted", "tuple", "list", "int", "all", "range", "isinstance", "bool", "str"]
theorem tab : tabP es = P := rfl
theorem ok0 : EntOk es [] B ent0 := ⟨⟨by kernel_rfl, by kernel_rfl, by kernel_rfl, by decide +kernel, by kernel_rfl, by decide +kernel, by decide +kernel⟩, ⟨400, by kernel_rfl⟩, rfl⟩
theorem ok1 : EntOk es [] B ent1 := ⟨⟨by kernel_rfl, by kernel_rfl, by kernel_rfl, by decide +kernel, by kernel_rfl, by decide +kernel, by decide +kernel⟩, ⟨400, by kernel_rfl⟩, rfl⟩
theorem ok2 : EntOk es [] B ent2 := ⟨⟨by kernel_rfl, by kernel_rfl, by kernel_rfl, by decide +kernel, by kernel_rfl, by decide +kernel, by decide +kernel⟩, ⟨400, by kernel_rfl⟩, rfl⟩
theorem ok3 : EntOk es [] B ent3 := ⟨⟨by kernel_rfl, by kernel_rfl, by kernel_rfl, by decide +kernel, by kernel_rfl, by decide +kernel, by decide +kernel⟩, ⟨400, by kernel_rfl⟩, rfl⟩
theorem ok4 : EntOk es [] B ent4 := ⟨⟨by kernel_rfl, by kernel_rfl, by kernel_rfl, by decide +kernel, by kernel_rfl, by decide +kernel, by decide +kernel⟩, ⟨400, by kernel_rfl⟩, rfl⟩
theorem ok5 : EntOk es [] B ent5 := ⟨⟨by kernel_rfl, by kernel_rfl, by kernel_rfl, by decide +kernel, by kernel_rfl, by decide +kernel, by decide +kernel⟩, ⟨400, by kernel_rfl⟩, rfl⟩
theorem ok6 : EntOk es [] B ent6 := ⟨⟨by kernel_rfl, by kernel_rfl, by kernel_rfl, by decide +kernel, by kernel_rfl, by decide +kernel, by decide +kernel⟩, ⟨400, by kernel_rfl⟩, rfl⟩
theorem ok7 : EntOk es [] B ent7 := ⟨⟨by kernel_rfl, by kernel_rfl, by kernel_rfl, by decide +kernel, by kernel_rfl, by decide +kernel, by decide +kernel⟩, ⟨400, by kernel_rfl⟩, rfl⟩
theorem ok8 : EntOk es [] B ent8 := ⟨⟨by kernel_rfl, by kernel_rfl, by kernel_rfl, by decide +kernel, by kernel_rfl, by decide +kernel, by decide +kernel⟩, ⟨400, by kernel_rfl⟩, rfl⟩
theorem ok9 : EntOk es [] B ent9 := ⟨⟨by kernel_rfl, by kernel_rfl, by kernel_rfl, by decide +kernel, by kernel_rfl, by decide +kernel, by decide +kernel⟩, ⟨400, by kernel_rfl⟩, rfl⟩
theorem ok10 : EntOk es [] B ent10 := ⟨⟨by kernel_rfl, by kernel_rfl, by kernel_rfl, by decide +kernel, by kernel_rfl, by decide +kernel, by decide +kernel⟩, ⟨400, by kernel_rfl⟩, rfl⟩
theorem ok11 : EntOk es [] B ent11 := ⟨⟨by kernel_rfl, by kernel_rfl, by kernel_rfl, by decide +kernel, by kernel_rfl, by decide +kernel, by decide +kernel⟩, ⟨400, by kernel_rfl⟩, rfl⟩
theorem ok12 : EntOk es [] B ent12 := ⟨⟨by kernel_rfl, by kernel_rfl, by kernel_rfl, by decide +kernel, by kernel_rfl, by decide +kernel, by decide +kernel⟩, ⟨400, by kernel_rfl⟩, rfl⟩
theorem ok13 : EntOk es [] B ent13 := ⟨⟨by kernel_rfl, by kernel_rfl, by kernel_rfl, by decide +kernel, by kernel_rfl, by decide +kernel, by decide +kernel⟩, ⟨400, by kernel_rfl⟩, rfl⟩
theorem ok14 : EntOk es [] B ent14 := ⟨⟨by kernel_rfl, by kernel_rfl, by kernel_rfl, by decide +kernel, by kernel_rfl, by decide +kernel, by decide +kernel⟩, ⟨400, by kernel_rfl⟩, rfl⟩
theorem ok15 : EntOk es [] B ent15 := ⟨⟨by kernel_rfl, by kernel_rfl, by kernel_rfl, by decide +kernel, by kernel_rfl, by decide +kernel, by decide +kernel⟩, ⟨400, by kernel_rfl⟩, rfl⟩
theorem ok16 : EntOk es [] B ent16 := ⟨⟨by kernel_rfl, by kernel_rfl, by kernel_rfl, by decide +kernel, by kernel_rfl, by decide +kernel, by decide +kernel⟩, ⟨400, by kernel_rfl⟩, rfl⟩
theorem ok17 : EntOk es [] B ent17 := ⟨⟨by kernel_rfl, by kernel_rfl, by kernel_rfl, by decide +kernel, by kernel_rfl, by decide +kernel, by decide +kernel⟩, ⟨400, by kernel_rfl⟩, rfl⟩
theorem ok18 : EntOk es [] B ent18 := ⟨⟨by kernel_rfl, by kernel_rfl, by kernel_rfl, by decide +kernel, by kernel_rfl, by decide +kernel, by decide +kernel⟩, ⟨400, by kernel_rfl⟩, rfl⟩
theorem ok19 : EntOk es [] B ent19 := ⟨⟨by kernel_rfl, by kernel_rfl, by kernel_rfl, by decide +kernel, by kernel_rfl, by decide +kernel, by decide +kernel⟩, ⟨400, by kernel_rfl⟩, rfl⟩
theorem oks : ∀ e ∈ es, EntOk es [] B e := by
  intro e h
  simp only [List.mem_cons, List.not_mem_nil, or_false] at h
  rcases h with rfl | rfl | rfl | rfl | rfl | rfl | rfl | rfl | rfl | rfl | rfl | rfl | rfl | rfl | rfl | rfl | rfl | rfl | rfl | rfl
  · exact ok0
  · exact ok1
  · exact ok2
  · exact ok3
  · exact ok4
  · exact ok5
  · exact ok6
  · exact ok7
  · exact ok8
  · exact ok9
  · exact ok10
  · exact ok11
  · exact ok12
  · exact ok13
  · exact ok14
  · exact ok15
  · exact ok16
  · exact ok17
  · exact ok18
  · exact ok19
abbrev dep : Nat := 30
theorem all_mk {w : World} {K : PySem.W.Frag} {h : Heap} {mg : Str → Option Value} {fa : Addr} (X : K.In h) (G : h.Ns mainGlobals mg) (hfa : mg "law" = some (.ref fa))
    {p0 : Addr} {od0 an0 : Option Addr} {sl0 : Array (Option Value)} {oc0 kV0 dc0 pm0 cd0 ct0 : Value}
    {p1 : Addr} {od1 an1 : Option Addr} {sl1 : Array (Option Value)} {oc1 kV1 dc1 pm1 cd1 ct1 : Value}
    {p2 : Addr} {od2 an2 : Option Addr} {sl2 : Array (Option Value)} {oc2 kV2 dc2 pm2 cd2 ct2 : Value}
    {p3 : Addr} {od3 an3 : Option Addr} {sl3 : Array (Option Value)} {oc3 kV3 dc3 pm3 cd3 ct3 : Value}
    {p4 : Addr} {od4 an4 : Option Addr} {sl4 : Array (Option Value)} {oc4 kV4 dc4 pm4 cd4 ct4 : Value}
    {p5 : Addr} {od5 an5 : Option Addr} {sl5 : Array (Option Value)} {oc5 kV5 dc5 pm5 cd5 ct5 : Value}
    {p6 : Addr} {od6 an6 : Option Addr} {sl6 : Array (Option Value)} {oc6 kV6 dc6 pm6 cd6 ct6 : Value}
    {p7 : Addr} {od7 an7 : Option Addr} {sl7 : Array (Option Value)} {oc7 kV7 dc7 pm7 cd7 ct7 : Value}
    {p8 : Addr} {od8 an8 : Option Addr} {sl8 : Array (Option Value)} {oc8 kV8 dc8 pm8 cd8 ct8 : Value}
    {p9 : Addr} {od9 an9 : Option Addr} {sl9 : Array (Option Value)} {oc9 kV9 dc9 pm9 cd9 ct9 : Value}
    {p10 : Addr} {od10 an10 : Option Addr} {sl10 : Array (Option Value)} {oc10 kV10 dc10 pm10 cd10 ct10 : Value}
    {p11 : Addr} {od11 an11 : Option Addr} {sl11 : Array (Option Value)} {oc11 kV11 dc11 pm11 cd11 ct11 : Value}
    {p12 : Addr} {od12 an12 : Option Addr} {sl12 : Array (Option Value)} {oc12 kV12 dc12 pm12 cd12 ct12 : Value}
    {p13 : Addr} {od13 an13 : Option Addr} {sl13 : Array (Option Value)} {oc13 kV13 dc13 pm13 cd13 ct13 : Value}
    {p14 : Addr} {od14 an14 : Option Addr} {sl14 : Array (Option Value)} {oc14 kV14 dc14 pm14 cd14 ct14 : Value}
    {p15 : Addr} {od15 an15 : Option Addr} {sl15 : Array (Option Value)} {oc15 kV15 dc15 pm15 cd15 ct15 : Value}
    {p16 : Addr} {od16 an16 : Option Addr} {sl16 : Array (Option Value)} {oc16 kV16 dc16 pm16 cd16 ct16 : Value}
    {p17 : Addr} {od17 an17 : Option Addr} {sl17 : Array (Option Value)} {oc17 kV17 dc17 pm17 cd17 ct17 : Value}
    {p18 : Addr} {od18 an18 : Option Addr} {sl18 : Array (Option Value)} {oc18 kV18 dc18 pm18 cd18 ct18 : Value}
    {p19 : Addr} {od19 an19 : Option Addr} {sl19 : Array (Option Value)} {oc19 kV19 dc19 pm19 cd19 ct19 : Value}
    (a0 : PySem.W.nsIn K mainGlobals "_law_start" = some (some (.ref p0))) (l0 : K.lookup p0 = some ⟨oc0, od0, .func (PySem.W.fnOf "_law_start" "_law_start" (defArgs (top 14)) (defBody (top 14)) (defScope (top 14)) .none kV0 dc0 pm0 an0 cd0 ct0), sl0⟩) (c0 : PySem.W.codeIn K cd0 "_law_start" = true) (k0 : PySem.W.keepIn K (.ref p0) = true)
    (a1 : PySem.W.nsIn K mainGlobals "_law_pick" = some (some (.ref p1))) (l1 : K.lookup p1 = some ⟨oc1, od1, .func (PySem.W.fnOf "_law_pick" "_law_pick" (defArgs (top 15)) (defBody (top 15)) (defScope (top 15)) .none kV1 dc1 pm1 an1 cd1 ct1), sl1⟩) (c1 : PySem.W.codeIn K cd1 "_law_pick" = true) (k1 : PySem.W.keepIn K (.ref p1) = true)
    (a2 : PySem.W.nsIn K mainGlobals "_law_same" = some (some (.ref p2))) (l2 : K.lookup p2 = some ⟨oc2, od2, .func (PySem.W.fnOf "_law_same" "_law_same" (defArgs (top 16)) (defBody (top 16)) (defScope (top 16)) .none kV2 dc2 pm2 an2 cd2 ct2), sl2⟩) (c2 : PySem.W.codeIn K cd2 "_law_same" = true) (k2 : PySem.W.keepIn K (.ref p2) = true)
    (a3 : PySem.W.nsIn K mainGlobals "_law_orders" = some (some (.ref p3))) (l3 : K.lookup p3 = some ⟨oc3, od3, .func (PySem.W.fnOf "_law_orders" "_law_orders" (defArgs (top 17)) (defBody (top 17)) (defScope (top 17)) .none kV3 dc3 pm3 an3 cd3 ct3), sl3⟩) (c3 : PySem.W.codeIn K cd3 "_law_orders" = true) (k3 : PySem.W.keepIn K (.ref p3) = true)
    (a4 : PySem.W.nsIn K mainGlobals "_law_ends" = some (some (.ref p4))) (l4 : K.lookup p4 = some ⟨oc4, od4, .func (PySem.W.fnOf "_law_ends" "_law_ends" (defArgs (top 18)) (defBody (top 18)) (defScope (top 18)) .none kV4 dc4 pm4 an4 cd4 ct4), sl4⟩) (c4 : PySem.W.codeIn K cd4 "_law_ends" = true) (k4 : PySem.W.keepIn K (.ref p4) = true)
    (a5 : PySem.W.nsIn K mainGlobals "_law_kept" = some (some (.ref p5))) (l5 : K.lookup p5 = some ⟨oc5, od5, .func (PySem.W.fnOf "_law_kept" "_law_kept" (defArgs (top 19)) (defBody (top 19)) (defScope (top 19)) .none kV5 dc5 pm5 an5 cd5 ct5), sl5⟩) (c5 : PySem.W.codeIn K cd5 "_law_kept" = true) (k5 : PySem.W.keepIn K (.ref p5) = true)
    (a6 : PySem.W.nsIn K mainGlobals "_law_row" = some (some (.ref p6))) (l6 : K.lookup p6 = some ⟨oc6, od6, .func (PySem.W.fnOf "_law_row" "_law_row" (defArgs (top 20)) (defBody (top 20)) (defScope (top 20)) .none kV6 dc6 pm6 an6 cd6 ct6), sl6⟩) (c6 : PySem.W.codeIn K cd6 "_law_row" = true) (k6 : PySem.W.keepIn K (.ref p6) = true)
    (a7 : PySem.W.nsIn K mainGlobals "_law_pairs" = some (some (.ref p7))) (l7 : K.lookup p7 = some ⟨oc7, od7, .func (PySem.W.fnOf "_law_pairs" "_law_pairs" (defArgs (top 21)) (defBody (top 21)) (defScope (top 21)) .none kV7 dc7 pm7 an7 cd7 ct7), sl7⟩) (c7 : PySem.W.codeIn K cd7 "_law_pairs" = true) (k7 : PySem.W.keepIn K (.ref p7) = true)
    (a8 : PySem.W.nsIn K mainGlobals "ends_in" = some (some (.ref p8))) (l8 : K.lookup p8 = some ⟨oc8, od8, .func (PySem.W.fnOf "ends_in" "ends_in" (defArgs (top 1)) (defBody (top 1)) (defScope (top 1)) .none kV8 dc8 pm8 an8 cd8 ct8), sl8⟩) (c8 : PySem.W.codeIn K cd8 "ends_in" = true) (k8 : PySem.W.keepIn K (.ref p8) = true)
    (a9 : PySem.W.nsIn K mainGlobals "by_dues" = some (some (.ref p9))) (l9 : K.lookup p9 = some ⟨oc9, od9, .func (PySem.W.fnOf "by_dues" "by_dues" (defArgs (top 3)) (defBody (top 3)) (defScope (top 3)) .none kV9 dc9 pm9 an9 cd9 ct9), sl9⟩) (c9 : PySem.W.codeIn K cd9 "by_dues" = true) (k9 : PySem.W.keepIn K (.ref p9) = true)
    (a10 : PySem.W.nsIn K mainGlobals "tardiness" = some (some (.ref p10))) (l10 : K.lookup p10 = some ⟨oc10, od10, .func (PySem.W.fnOf "tardiness" "tardiness" (defArgs (top 5)) (defBody (top 5)) (defScope (top 5)) .none kV10 dc10 pm10 an10 cd10 ct10), sl10⟩) (c10 : PySem.W.codeIn K cd10 "tardiness" = true) (k10 : PySem.W.keepIn K (.ref p10) = true)
    (a11 : PySem.W.nsIn K mainGlobals "least_tardy" = some (some (.ref p11))) (l11 : K.lookup p11 = some ⟨oc11, od11, .func (PySem.W.fnOf "least_tardy" "least_tardy" (defArgs (top 6)) (defBody (top 6)) (defScope (top 6)) .none kV11 dc11 pm11 an11 cd11 ct11), sl11⟩) (c11 : PySem.W.codeIn K cd11 "least_tardy" = true) (k11 : PySem.W.keepIn K (.ref p11) = true)
    (a12 : PySem.W.nsIn K mainGlobals "least_tardy_kept" = some (some (.ref p12))) (l12 : K.lookup p12 = some ⟨oc12, od12, .func (PySem.W.fnOf "least_tardy_kept" "least_tardy_kept" (defArgs (top 7)) (defBody (top 7)) (defScope (top 7)) .none kV12 dc12 pm12 an12 cd12 ct12), sl12⟩) (c12 : PySem.W.codeIn K cd12 "least_tardy_kept" = true) (k12 : PySem.W.keepIn K (.ref p12) = true)
    (a13 : PySem.W.nsIn K mainGlobals "sure_pairs" = some (some (.ref p13))) (l13 : K.lookup p13 = some ⟨oc13, od13, .func (PySem.W.fnOf "sure_pairs" "sure_pairs" (defArgs (top 8)) (defBody (top 8)) (defScope (top 8)) .none kV13 dc13 pm13 an13 cd13 ct13), sl13⟩) (c13 : PySem.W.codeIn K cd13 "sure_pairs" = true) (k13 : PySem.W.keepIn K (.ref p13) = true)
    (a14 : PySem.W.nsIn K mainGlobals "is_one_late" = some (some (.ref p14))) (l14 : K.lookup p14 = some ⟨oc14, od14, .func (PySem.W.fnOf "is_one_late" "is_one_late" (defArgs (top 9)) (defBody (top 9)) (defScope (top 9)) .none kV14 dc14 pm14 an14 cd14 ct14), sl14⟩) (c14 : PySem.W.codeIn K cd14 "is_one_late" = true) (k14 : PySem.W.keepIn K (.ref p14) = true)
    (a15 : PySem.W.nsIn K mainGlobals "all_late_bound" = some (some (.ref p15))) (l15 : K.lookup p15 = some ⟨oc15, od15, .func (PySem.W.fnOf "all_late_bound" "all_late_bound" (defArgs (top 10)) (defBody (top 10)) (defScope (top 10)) .none kV15 dc15 pm15 an15 cd15 ct15), sl15⟩) (c15 : PySem.W.codeIn K cd15 "all_late_bound" = true) (k15 : PySem.W.keepIn K (.ref p15) = true)
    (a16 : PySem.W.nsIn K mainGlobals "better_neighbours" = some (some (.ref p16))) (l16 : K.lookup p16 = some ⟨oc16, od16, .func (PySem.W.fnOf "better_neighbours" "better_neighbours" (defArgs (top 11)) (defBody (top 11)) (defScope (top 11)) .none kV16 dc16 pm16 an16 cd16 ct16), sl16⟩) (c16 : PySem.W.codeIn K cd16 "better_neighbours" = true) (k16 : PySem.W.keepIn K (.ref p16) = true)
    (a17 : PySem.W.nsIn K mainGlobals "best_by_neighbours" = some (some (.ref p17))) (l17 : K.lookup p17 = some ⟨oc17, od17, .func (PySem.W.fnOf "best_by_neighbours" "best_by_neighbours" (defArgs (top 12)) (defBody (top 12)) (defScope (top 12)) .none kV17 dc17 pm17 an17 cd17 ct17), sl17⟩) (c17 : PySem.W.codeIn K cd17 "best_by_neighbours" = true) (k17 : PySem.W.keepIn K (.ref p17) = true)
    (a18 : PySem.W.nsIn K mainGlobals "_law_sum" = some (some (.ref p18))) (l18 : K.lookup p18 = some ⟨oc18, od18, .func (PySem.W.fnOf "_law_sum" "_law_sum" (defArgs (top 22)) (defBody (top 22)) (defScope (top 22)) .none kV18 dc18 pm18 an18 cd18 ct18), sl18⟩) (c18 : PySem.W.codeIn K cd18 "_law_sum" = true) (k18 : PySem.W.keepIn K (.ref p18) = true)
    (a19 : PySem.W.nsIn K mainGlobals "law" = some (some (.ref p19))) (l19 : K.lookup p19 = some ⟨oc19, od19, .func (PySem.W.fnOf "law" "law" (defArgs (top 23)) (defBody (top 23)) (defScope (top 23)) .none kV19 dc19 pm19 an19 cd19 ct19), sl19⟩) (c19 : PySem.W.codeIn K cd19 "law" = true) (k19 : PySem.W.keepIn K (.ref p19) = true)
    (z0 : PySem.W.nsIn K mainGlobals "len" = some none)
    (z1 : PySem.W.nsIn K mainGlobals "abs" = some none)
    (z2 : PySem.W.nsIn K mainGlobals "sum" = some none)
    (z3 : PySem.W.nsIn K mainGlobals "max" = some none)
    (z4 : PySem.W.nsIn K mainGlobals "min" = some none)
    (z5 : PySem.W.nsIn K mainGlobals "sorted" = some none)
    (z6 : PySem.W.nsIn K mainGlobals "tuple" = some none)
    (z7 : PySem.W.nsIn K mainGlobals "list" = some none)
    (z8 : PySem.W.nsIn K mainGlobals "int" = some none)
    (z9 : PySem.W.nsIn K mainGlobals "all" = some none)
    (z10 : PySem.W.nsIn K mainGlobals "range" = some none)
    (z11 : PySem.W.nsIn K mainGlobals "isinstance" = some none)
    (z12 : PySem.W.nsIn K mainGlobals "bool" = some none)
    (z13 : PySem.W.nsIn K mainGlobals "str" = some none)
    : ∃ fd : FuncData, (∀ (s : Shared) (v : Value), BindsTo s fd ⟨[v], []⟩ [("script", v)]) ∧ ∀ base : Heap, K.In base → base.Ns mainGlobals mg → FnOk PySem.Challenge.pw_jobwright_k05_whole_sums_of_lateness w K mg base (L2.CX PySem.Challenge.pw_jobwright_k05_whole_sums_of_lateness w) dep fa fd ["script"] (spF ⟨K, fun _ => 0, fun _ => ""⟩ (run P dep 19) 1) := by
  have e := hfa.symm.trans (PySem.W.mg_of X G a19)
  cases e
  have F0 := fun_mk (st := top 14) l0 c0 k0
  have q0 : EntK K mg ent0 := ⟨⟨_, _, F0, PySem.W.mg_of X G a0, F0.binds (ps := ["script"]) fun _ _ _ _ _ _ us hl => match us, hl with | [_], _ => rfl⟩⟩
  have F1 := fun_mk (st := top 15) l1 c1 k1
  have q1 : EntK K mg ent1 := ⟨⟨_, _, F1, PySem.W.mg_of X G a1, F1.binds (ps := ["state", "limit"]) fun _ _ _ _ _ _ us hl => match us, hl with | [_, _], _ => rfl⟩⟩
  have F2 := fun_mk (st := top 16) l2 c2 k2
  have q2 : EntK K mg ent2 := ⟨⟨_, _, F2, PySem.W.mg_of X G a2, F2.binds (ps := ["told", "due"]) fun _ _ _ _ _ _ us hl => match us, hl with | [_, _], _ => rfl⟩⟩
  have F3 := fun_mk (st := top 17) l3 c3 k3
  have q3 : EntK K mg ent3 := ⟨⟨_, _, F3, PySem.W.mg_of X G a3, F3.binds (ps := ["many"]) fun _ _ _ _ _ _ us hl => match us, hl with | [_], _ => rfl⟩⟩
  have F4 := fun_mk (st := top 18) l4 c4 k4
  have q4 : EntK K mg ent4 := ⟨⟨_, _, F4, PySem.W.mg_of X G a4, F4.binds (ps := ["times", "order"]) fun _ _ _ _ _ _ us hl => match us, hl with | [_, _], _ => rfl⟩⟩
  have F5 := fun_mk (st := top 19) l5 c5 k5
  have q5 : EntK K mg ent5 := ⟨⟨_, _, F5, PySem.W.mg_of X G a5, F5.binds (ps := ["order", "pairs"]) fun _ _ _ _ _ _ us hl => match us, hl with | [_, _], _ => rfl⟩⟩
  have F6 := fun_mk (st := top 20) l6 c6 k6
  have q6 : EntK K mg ent6 := ⟨⟨_, _, F6, PySem.W.mg_of X G a6, F6.binds (ps := ["state", "many", "least", "most"]) fun _ _ _ _ _ _ us hl => match us, hl with | [_, _, _, _], _ => rfl⟩⟩
  have F7 := fun_mk (st := top 21) l7 c7 k7
  have q7 : EntK K mg ent7 := ⟨⟨_, _, F7, PySem.W.mg_of X G a7, F7.binds (ps := ["state", "many"]) fun _ _ _ _ _ _ us hl => match us, hl with | [_, _], _ => rfl⟩⟩
  have F8 := fun_mk (st := top 1) l8 c8 k8
  have q8 : EntK K mg ent8 := ⟨⟨_, _, F8, PySem.W.mg_of X G a8, F8.binds (ps := ["times", "order"]) fun _ _ _ _ _ _ us hl => match us, hl with | [_, _], _ => rfl⟩⟩
  have F9 := fun_mk (st := top 3) l9 c9 k9
  have q9 : EntK K mg ent9 := ⟨⟨_, _, F9, PySem.W.mg_of X G a9, F9.binds (ps := ["dues"]) fun _ _ _ _ _ _ us hl => match us, hl with | [_], _ => rfl⟩⟩
  have F10 := fun_mk (st := top 5) l10 c10 k10
  have q10 : EntK K mg ent10 := ⟨⟨_, _, F10, PySem.W.mg_of X G a10, F10.binds (ps := ["times", "weights", "dues", "order"]) fun _ _ _ _ _ _ us hl => match us, hl with | [_, _, _, _], _ => rfl⟩⟩
  have F11 := fun_mk (st := top 6) l11 c11 k11
  have q11 : EntK K mg ent11 := ⟨⟨_, _, F11, PySem.W.mg_of X G a11, F11.binds (ps := ["times", "weights", "dues"]) fun _ _ _ _ _ _ us hl => match us, hl with | [_, _, _], _ => rfl⟩⟩
  have F12 := fun_mk (st := top 7) l12 c12 k12
  have q12 : EntK K mg ent12 := ⟨⟨_, _, F12, PySem.W.mg_of X G a12, F12.binds (ps := ["times", "weights", "dues", "pairs"]) fun _ _ _ _ _ _ us hl => match us, hl with | [_, _, _, _], _ => rfl⟩⟩
  have F13 := fun_mk (st := top 8) l13 c13 k13
  have q13 : EntK K mg ent13 := ⟨⟨_, _, F13, PySem.W.mg_of X G a13, F13.binds (ps := ["times", "weights", "dues"]) fun _ _ _ _ _ _ us hl => match us, hl with | [_, _, _], _ => rfl⟩⟩
  have F14 := fun_mk (st := top 9) l14 c14 k14
  have q14 : EntK K mg ent14 := ⟨⟨_, _, F14, PySem.W.mg_of X G a14, F14.binds (ps := ["times", "dues"]) fun _ _ _ _ _ _ us hl => match us, hl with | [_, _], _ => rfl⟩⟩
  have F15 := fun_mk (st := top 10) l15 c15 k15
  have q15 : EntK K mg ent15 := ⟨⟨_, _, F15, PySem.W.mg_of X G a15, F15.binds (ps := ["times", "weights", "dues"]) fun _ _ _ _ _ _ us hl => match us, hl with | [_, _, _], _ => rfl⟩⟩
  have F16 := fun_mk (st := top 11) l16 c16 k16
  have q16 : EntK K mg ent16 := ⟨⟨_, _, F16, PySem.W.mg_of X G a16, F16.binds (ps := ["times", "weights", "dues", "order"]) fun _ _ _ _ _ _ us hl => match us, hl with | [_, _, _, _], _ => rfl⟩⟩
  have F17 := fun_mk (st := top 12) l17 c17 k17
  have q17 : EntK K mg ent17 := ⟨⟨_, _, F17, PySem.W.mg_of X G a17, F17.binds (ps := ["times", "weights", "dues", "order"]) fun _ _ _ _ _ _ us hl => match us, hl with | [_, _, _, _], _ => rfl⟩⟩
  have F18 := fun_mk (st := top 22) l18 c18 k18
  have q18 : EntK K mg ent18 := ⟨⟨_, _, F18, PySem.W.mg_of X G a18, F18.binds (ps := ["times", "weights", "dues", "order"]) fun _ _ _ _ _ _ us hl => match us, hl with | [_, _, _, _], _ => rfl⟩⟩
  have F19 := fun_mk (st := top 23) l19 c19 k19
  have q19 : EntK K mg ent19 := ⟨⟨_, _, F19, PySem.W.mg_of X G a19, F19.binds (ps := ["script"]) fun _ _ _ _ _ _ us hl => match us, hl with | [_], _ => rfl⟩⟩
  have hk : ∀ e ∈ es, EntK K mg e := by
    intro e h
    simp only [List.mem_cons, List.not_mem_nil, or_false] at h
    rcases h with rfl | rfl | rfl | rfl | rfl | rfl | rfl | rfl | rfl | rfl | rfl | rfl | rfl | rfl | rfl | rfl | rfl | rfl | rfl | rfl
    · exact q0
    · exact q1
    · exact q2
    · exact q3
    · exact q4
    · exact q5
    · exact q6
    · exact q7
    · exact q8
    · exact q9
    · exact q10
    · exact q11
    · exact q12
    · exact q13
    · exact q14
    · exact q15
    · exact q16
    · exact q17
    · exact q18
    · exact q19
  have mgb : ∀ x ∈ B, mg x = none := by
    intro x h
    simp only [List.mem_cons, List.not_mem_nil, or_false] at h
    rcases h with rfl | rfl | rfl | rfl | rfl | rfl | rfl | rfl | rfl | rfl | rfl | rfl | rfl | rfl
    · exact PySem.W.mg_none_of X G z0
    · exact PySem.W.mg_none_of X G z1
    · exact PySem.W.mg_none_of X G z2
    · exact PySem.W.mg_none_of X G z3
    · exact PySem.W.mg_none_of X G z4
    · exact PySem.W.mg_none_of X G z5
    · exact PySem.W.mg_none_of X G z6
    · exact PySem.W.mg_none_of X G z7
    · exact PySem.W.mg_none_of X G z8
    · exact PySem.W.mg_none_of X G z9
    · exact PySem.W.mg_none_of X G z10
    · exact PySem.W.mg_none_of X G z11
    · exact PySem.W.mg_none_of X G z12
    · exact PySem.W.mg_none_of X G z13
  refine ⟨PySem.W.fnOf "law" "law" (defArgs (top 23)) (defBody (top 23)) (defScope (top 23)) .none kV19 dc19 pm19 an19 cd19 ct19, fun s v => .of_eq rfl, fun base _ _ => ?_⟩
  exact all_ok (G := ⟨K, fun _ => 0, fun _ => ""⟩) (C := []) oks hk mgb (fun x d z => nomatch z) dep 19 ent19 rfl _ _ F19
end DM.k05
set_option Elab.async false
set_option linter.all false
set_option maxRecDepth 100000
open PySem PySem.W PyProof.Rows
set_option maxHeartbeats 0 in
theorem PySem.Challenge.cw_jobwright_k05_whole_sums_of_lateness_holds : PySem.Challenge.rw_jobwright_k05_whole_sums_of_lateness.Holds := by
  w_on; o_law; k_head; (case hw => w_witness2)
  k_fill
  refine L2.walk_of (l := PySem.Challenge.rw_jobwright_k05_whole_sums_of_lateness) (n := 63) (k := DM.k05.dep) (x := "script") (CX := fun w => L2.CX PySem.Challenge.pw_jobwright_k05_whole_sums_of_lateness w) (sp := fun w => DM.spF ⟨_, fun _ => 0, fun _ => ""⟩ (DM.run DM.k05.P DM.k05.dep 19) 1) rfl (by decide) rfl ⟨rfl, by decide, by decide⟩ (fun w h Y => PySem.W.kIn_of Y) ?F (fun w H a ns hl _ hS => DM.law_sp DM.k05.hrun H a ns hl hS) (fun w H s e s' h => DM.no_cx h)
  case F =>
    intro w mg fa h KX G hmg
    refine' DM.k05.all_mk KX G hmg ?a0 ?l0 ?c0 ?k0 ?a1 ?l1 ?c1 ?k1 ?a2 ?l2 ?c2 ?k2 ?a3 ?l3 ?c3 ?k3 ?a4 ?l4 ?c4 ?k4 ?a5 ?l5 ?c5 ?k5 ?a6 ?l6 ?c6 ?k6 ?a7 ?l7 ?c7 ?k7 ?a8 ?l8 ?c8 ?k8 ?a9 ?l9 ?c9 ?k9 ?a10 ?l10 ?c10 ?k10 ?a11 ?l11 ?c11 ?k11 ?a12 ?l12 ?c12 ?k12 ?a13 ?l13 ?c13 ?k13 ?a14 ?l14 ?c14 ?k14 ?a15 ?l15 ?c15 ?k15 ?a16 ?l16 ?c16 ?k16 ?a17 ?l17 ?c17 ?k17 ?a18 ?l18 ?c18 ?k18 ?a19 ?l19 ?c19 ?k19 ?z0 ?z1 ?z2 ?z3 ?z4 ?z5 ?z6 ?z7 ?z8 ?z9 ?z10 ?z11 ?z12 ?z13
    (case a0 => k_is); (case l0 => k_is); (case c0 => k_is); (case k0 => k_is); (case a1 => k_is); (case l1 => k_is); (case c1 => k_is); (case k1 => k_is); (case a2 => k_is); (case l2 => k_is); (case c2 => k_is); (case k2 => k_is); (case a3 => k_is); (case l3 => k_is); (case c3 => k_is); (case k3 => k_is); (case a4 => k_is); (case l4 => k_is); (case c4 => k_is); (case k4 => k_is); (case a5 => k_is); (case l5 => k_is); (case c5 => k_is); (case k5 => k_is); (case a6 => k_is); (case l6 => k_is); (case c6 => k_is); (case k6 => k_is); (case a7 => k_is); (case l7 => k_is); (case c7 => k_is); (case k7 => k_is); (case a8 => k_is); (case l8 => k_is); (case c8 => k_is); (case k8 => k_is); (case a9 => k_is); (case l9 => k_is); (case c9 => k_is); (case k9 => k_is); (case a10 => k_is); (case l10 => k_is); (case c10 => k_is); (case k10 => k_is); (case a11 => k_is); (case l11 => k_is); (case c11 => k_is); (case k11 => k_is); (case a12 => k_is); (case l12 => k_is); (case c12 => k_is); (case k12 => k_is); (case a13 => k_is); (case l13 => k_is); (case c13 => k_is); (case k13 => k_is); (case a14 => k_is); (case l14 => k_is); (case c14 => k_is); (case k14 => k_is); (case a15 => k_is); (case l15 => k_is); (case c15 => k_is); (case k15 => k_is); (case a16 => k_is); (case l16 => k_is); (case c16 => k_is); (case k16 => k_is); (case a17 => k_is); (case l17 => k_is); (case c17 => k_is); (case k17 => k_is); (case a18 => k_is); (case l18 => k_is); (case c18 => k_is); (case k18 => k_is); (case a19 => k_is); (case l19 => k_is); (case c19 => k_is); (case k19 => k_is); (case z0 => k_is); (case z1 => k_is); (case z2 => k_is); (case z3 => k_is); (case z4 => k_is); (case z5 => k_is); (case z6 => k_is); (case z7 => k_is); (case z8 => k_is); (case z9 => k_is); (case z10 => k_is); (case z11 => k_is); (case z12 => k_is); (case z13 => k_is)
