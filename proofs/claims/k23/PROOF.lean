import PyProof.Rows.All
import Wide.All
import OpenK.AllK
import Wide.FinOn
import HandS.ForMost
import HandS.Lambda
import HandS.Star
import HandS.TupAny
import HandS.TupMul
import HandS.Deep
import HandS.Conv
import HandS.Zip
import HandS.Walk
import HandS.Wide
import HandS.Style
import HandS.Small
import HandS.More
import HandS.IsInst
import HandS.WordsDict
import HandS.Text
import HandS.Codes
import PySem.Challenge.RW_layicons_k23_whole_rounds_of_orders
set_option Elab.async false
set_option linter.all false
set_option maxRecDepth 100000
/-! QEv: an evaluator over plain data for a fragment of Python; its trees and what they give. -/
namespace Q
open PySem L2

/-- plain data; loc n: the n-th mutable object of the store; frz: the script -/
inductive D where
  | non | bl (b : Bool) | int (i : Int) | str (s : Str)
  | tup (ds : List D) | lst (ds : List D) | loc (n : Nat) | frz (ns : List Int)
  deriving Inhabited
/-- mutable objects -/
inductive SO where
  | lst (ds : List D) | dct (kvs : List (Key × D))
  /-- a dict while a comprehension walks it -/
  | lck (kvs : List (Key × D))
  deriving Inhabited
abbrev Store := List SO
abbrev Env := List (Option D)
abbrev R := Option (D × Store)

mutual
/-- data of a depth of at most n, no places within -/
def D.ok : Nat → D → Bool
  | _, .non => true
  | _, .bl _ => true
  | _, .int _ => true
  | _, .str _ => true
  | 0, .tup _ => false
  | 0, .lst _ => false
  | n + 1, .tup ds => D.okL n ds
  | n + 1, .lst ds => D.okL n ds
  | _, .loc _ => false
  | _, .frz _ => false
def D.okL : Nat → List D → Bool
  | _, [] => true
  | n, d :: ds => D.ok n d && D.okL n ds
end
mutual
def D.eq : D → D → Bool
  | .non, .non => true
  | .bl a, .bl b => a == b
  | .bl a, .int j => (if a then 1 else 0) == j
  | .int i, .bl b => i == (if b then 1 else 0)
  | .int i, .int j => i == j
  | .str x, .str y => x == y
  | .lst xs, .lst ys => D.eqL xs ys
  | .tup xs, .tup ys => D.eqL xs ys
  | .non, _ => false
  | .bl _, _ => false
  | .int _, _ => false
  | .str _, _ => false
  | .lst _, _ => false
  | .tup _, _ => false
  | .loc _, _ => false
  | .frz _, _ => false
def D.eqL : List D → List D → Bool
  | [], [] => true
  | x :: xs, y :: ys => D.eq x y && D.eqL xs ys
  | [], _ :: _ => false
  | _ :: _, [] => false
end

/-- a list, a tuple, a mutable list: its items -/
def seqOf (st : Store) : D → Option (List D)
  | .tup ds => some ds
  | .lst ds => some ds
  | .loc n => match st[n]? with
    | some (.lst ds) => some ds
    | _ => none
  | _ => none
/-- a list's items -/
def lstOf (st : Store) : D → Option (List D)
  | .lst ds => some ds
  | .loc n => match st[n]? with
    | some (.lst ds) => some ds
    | _ => none
  | _ => none
def dctOf (st : Store) : D → Option (List (Key × D))
  | .loc n => match st[n]? with
    | some (.dct kvs) => some kvs
    | some (.lck kvs) => some kvs
    | _ => none
  | _ => none
/-- a mutable list as data, at the top -/
def pure1 (st : Store) : D → D
  | .loc n => match st[n]? with
    | some (.lst ds) => .lst ds
    | _ => .loc n
  | d => d
def deq (st : Store) (a b : D) : Option Bool :=
  if (pure1 st a).ok 20 && (pure1 st b).ok 20 then some ((pure1 st a).eq (pure1 st b)) else none
/-- a new list: kept as data, or a place of the store -/
def mkL (m : Bool) (ds : List D) (st : Store) : R :=
  if ds.length ≤ sizeLine then some (if m then (.loc st.length, st ++ [.lst ds]) else (.lst ds, st)) else none
def mkD (kvs : List (Key × D)) (st : Store) : R := some (.loc st.length, st ++ [.dct kvs])
def mkT (ds : List D) (st : Store) : R := if ds.length ≤ sizeLine then some (.tup ds, st) else none
/-- bounds of products and quotients -/
def bigP : Nat := 1000
def binI : Operator → Int → Int → Option Int
  | .Add, i, j => some (i + j)
  | .Sub, i, j => some (i - j)
  | .Mult, i, j => if i.natAbs < 2 ^ 1000 ∧ j.natAbs < 2 ^ 1000 then some (i * j) else none
  | .FloorDiv, i, j => if j ≠ 0 ∧ j.natAbs < 2 ^ 1000 then some (i.fdiv j) else none
  | .Mod, i, j => if j ≠ 0 then some (i.fmod j) else none
  | .Pow, i, j => if 0 ≤ j ∧ j ≤ 1000000 ∧ i.natAbs < 2 ^ 64 then some (i ^ j.toNat) else none
  | _, _, _ => none
/-- operators that make no list -/
def binD (op : Operator) (a b : D) (st : Store) : R :=
  match op, a, b with
  | op, .int i, .int j => (binI op i j).map fun k => (.int k, st)
  | .Add, .str x, .str y => if x.length + y.length ≤ 1000000 then some (.str (x ++ y), st) else none
  | .Add, .tup xs, .tup ys => mkT (xs ++ ys) st
  | .Mult, .tup xs, .int k => if xs ≠ [] ∧ 2 ≤ k ∧ k ≤ 1000 ∧ xs.length ≤ 1000 then mkT (List.replicate k.toNat xs).flatten st else none
  | _, _, _ => none
def cmpI : CmpOp → Int → Int → Option Bool
  | .Lt, i, j => some (decide (i < j))
  | .LtE, i, j => some (decide (i ≤ j))
  | .Gt, i, j => some (decide (j < i))
  | .GtE, i, j => some (decide (j ≤ i))
  | _, _, _ => none
def cmpD (st : Store) : CmpOp → D → D → Option Bool
  | .Eq, a, b => deq st a b
  | .NotEq, a, b => (deq st a b).map not
  | op, .int i, .int j => cmpI op i j
  | .LtE, .str x, .str y => some (!decide (y.cps.toList < x.cps.toList))
  | _, _, _ => none
/-- a sign in a text -/
def isSign (x : Str) : Option Nat := match x.cps.toList with
  | [c] => some c
  | _ => none
def flatD : D → Bool
  | .non => true
  | .bl _ => true
  | .int _ => true
  | .str _ => true
  | _ => false
/-- x in y -/
def memD (st : Store) (a b : D) : Option Bool :=
  match b with
  | .str z => match a with
    | .str x => match isSign x with
      | some c => some (decide (c ∈ z.cps.toList))
      | none => none
    | _ => none
  | .tup ds => if flatD a && ds.all flatD then some (ds.any fun y => y.eq a) else none
  | b => match lstOf st b with
    | some ds => if a.ok 20 && D.okL 20 ds then some (ds.any fun y => y.eq a) else none
    | none => none
def keyOf : D → Option Key
  | .int i => some (.inl i)
  | .str x => some (.inr x)
  | _ => none
def unkey : Key → D
  | .inl i => .int i
  | .inr x => .str x
def dget (kvs : List (Key × D)) (k : Key) : Option D := (kvs.find? fun kv => decide (kv.1 = k)).map (·.2)
def dput (kvs : List (Key × D)) (k : Key) (v : D) : List (Key × D) :=
  if (kvs.any fun kv => decide (kv.1 = k)) = true then kvs.map (fun kv => if kv.1 = k then (kv.1, v) else kv) else kvs ++ [(k, v)]
def ddrop (kvs : List (Key × D)) (k : Key) : List (Key × D) := kvs.filter fun kv => !decide (kv.1 = k)
/-- xs[i], any sign -/
def atD (xs : List D) (i : Int) : Option D := atI xs i
/-- an item by its place: of a list, a tuple, a text -/
def subD (st : Store) (a i : D) : Option D :=
  match i with
  | .int k => match a with
    | .str z => if z.length ≤ sizeLine then (atI z.cps.toList k).map fun c => .str ⟨#[c]⟩ else none
    | a => match seqOf st a with
      | some ds => atI ds k
      | none => none
  | _ => none
def cutD {α : Type} (xs : List α) (lo hi : Option Int) : List α :=
  (xs.drop (HT.sIx xs.length 0 lo)).take (HT.sIx xs.length xs.length hi - HT.sIx xs.length 0 lo)
/-- a slice -/
def sliceD (a : D) (lo hi : Option Int) (st : Store) : R :=
  match a with
  | .str z => if z.length ≤ sizeLine then some (.str ⟨(cutD z.cps.toList lo hi).toArray⟩, st) else none
  | .tup ds => some (.tup (cutD ds lo hi), st)
  | a => match lstOf st a with
    | some ds => some (.lst (cutD ds lo hi), st)
    | none => none

/-! ### the trees -/
inductive Bi where
  | len | int | bool | abs | max | min | all | any | tuple | list | sorted
  deriving DecidableEq, Inhabited
def Bi.name : Bi → String
  | .len => "len"
  | .int => "int"
  | .bool => "bool"
  | .abs => "abs"
  | .max => "max"
  | .min => "min"
  | .all => "all"
  | .any => "any"
  | .tuple => "tuple"
  | .list => "list"
  | .sorted => "sorted"
inductive Me where
  | append | pop | insert | popK | get
  deriving DecidableEq, Inhabited
def Me.name : Me → String
  | .append => "append"
  | .pop => "pop"
  | .insert => "insert"
  | .popK => "pop"
  | .get => "get"
mutual
inductive X where
  | int (i : Int) | str (s : Str) | bl (b : Bool) | non
  | var (i : Nat) | glb (x : Str)
  | bin (op : Operator) (a b : X) | cat (m : Bool) (a b : X) | neg (a : X) | not (a : X)
  | cmp (op : CmpOp) (a b : X) | chain (op op' : CmpOp) (a b c : X)
  | isN (a : X) | notN (a : X) | isB (a : X) (b : Bool)
  | mem (a b : X) | notIn (a b : X) | memK (a b : X) | notInK (a b : X)
  | and (es : List X) | or (es : List X) | ite (c a b : X)
  | tup (es : List X) | lst (m : Bool) (es : List X) | star (a : X) | dct (ks vs : List X)
  | sub (a i : X) | subK (a i : X) | slice (a lo hi : X) | rev (a : X)
  | call (f : Str) (es : List X) | bi (f : Bi) (m : Bool) (es : List X) | lrange (m : Bool) (a : X) | isa (tys : List String) (a : X)
  | meth (f : Me) (o : X) (es : List X)
  | comp (own : List (Str × Nat)) (t : Tt) (it : It) (c : X) (e : X)
  | compK (own : List (Str × Nat)) (t : Tt) (i : Nat) (c : X) (e : X)
  | comp2 (own : List (Str × Nat)) (t : Tt) (it : It) (c : X) (own1 : List Nat) (t1 : Tt) (it1 : It) (c1 : X) (e : X)
  | sortK (a : X) (ky : X)
  | none_
inductive Tt where
  | name (i : Nat) | tup (ts : List Tt) | sub (o i : X) | subK (o i : X)
inductive It where
  | seq (a : X) | rng1 (a : X) | rng2 (a b : X) | enum (a : X) | zip (a b : X) | chars (a : X)
end
inductive S where
  | pass | set (t : Tt) (e : X) | par (ts : List Nat) (es : List X) | aug (i : Nat) (op : Operator) (e : X) | expr (e : X)
  | ite (c : X) (a b : List S) | for_ (t : Tt) (it : It) (b : List S) | while_ (c : X) (b : List S) | ret (e : X) | retN | never
  deriving Inhabited
instance : Inhabited X := ⟨.non⟩
instance : Inhabited Tt := ⟨.name 0⟩
instance : Inhabited It := ⟨.seq .non⟩
/-- a def: its parameters' number, all names by slot, its body -/
structure Def where
  name : Str
  arity : Nat
  names : List Str
  body : List S
  deriving Inhabited

/-! ### the same data, told by a test -/
mutual
def D.beq : D → D → Bool
  | .non, .non => true
  | .bl a, .bl b => a == b
  | .int a, .int b => a == b
  | .str a, .str b => decide (a = b)
  | .tup a, .tup b => D.beqL a b
  | .lst a, .lst b => D.beqL a b
  | .loc a, .loc b => a == b
  | .frz a, .frz b => a == b
  | _, _ => false
def D.beqL : List D → List D → Bool
  | [], [] => true
  | a :: x, b :: y => D.beq a b && D.beqL x y
  | _, _ => false
end
mutual
theorem D.beq_eq : ∀ a b : D, D.beq a b = true → a = b
  | .non, b, h => by cases b <;> simp_all [D.beq]
  | .bl _, b, h => by cases b <;> simp_all [D.beq]
  | .int _, b, h => by cases b <;> simp_all [D.beq]
  | .str _, b, h => by cases b <;> simp_all [D.beq]
  | .loc _, b, h => by cases b <;> simp_all [D.beq]
  | .frz _, b, h => by cases b <;> simp_all [D.beq]
  | .tup x, b, h => by
    cases b <;> simp only [D.beq, Bool.false_eq_true] at h
    rw [D.beqL_eq _ _ h]
  | .lst x, b, h => by
    cases b <;> simp only [D.beq, Bool.false_eq_true] at h
    rw [D.beqL_eq _ _ h]
theorem D.beqL_eq : ∀ a b : List D, D.beqL a b = true → a = b
  | [], b, h => by cases b <;> simp_all [D.beqL]
  | x :: xs, b, h => by
    cases b with
    | nil => simp [D.beqL] at h
    | cons y ys =>
      simp only [D.beqL, Bool.and_eq_true] at h
      rw [D.beq_eq _ _ h.1, D.beqL_eq _ _ h.2]
end
mutual
theorem D.beq_self : ∀ a : D, D.beq a a = true
  | .non => by simp [D.beq]
  | .bl _ => by simp [D.beq]
  | .int _ => by simp [D.beq]
  | .str _ => by simp [D.beq]
  | .loc _ => by simp [D.beq]
  | .frz _ => by simp [D.beq]
  | .tup x => by simp only [D.beq]; exact D.beqL_self x
  | .lst x => by simp only [D.beq]; exact D.beqL_self x
theorem D.beqL_self : ∀ a : List D, D.beqL a a = true
  | [] => by simp [D.beqL]
  | x :: xs => by simp only [D.beqL, Bool.and_eq_true]; exact ⟨D.beq_self x, D.beqL_self xs⟩
end
/-- a guard: what a place of the store must hold -/
def guardOk (g : Option (Nat × List D)) (st : Store) : Bool :=
  match g with
  | none => true
  | some (n, ds) => match st[n]? with
    | some (.lst es) => D.beqL es ds
    | _ => false

/-! ### what the trees give -/
inductive Fl where
  | next | ret (d : D)
abbrev RS := Option (Fl × Env × Store)
/-- what surrounds: constants, defs, the most turns of a while -/
structure Ctx where
  cst : Str → Option D
  call : Str → List D → Store → R
  turns : Nat

mutual
def bindT : Tt → D → Env → Option Env
  | .name i, d, env => if i < env.length then some (env.set i (some d)) else none
  | .tup ts, .tup ds, env => if ds.length = ts.length then bindTs ts ds env else none
  | _, _, _ => none
def bindTs : List Tt → List D → Env → Option Env
  | [], [], env => some env
  | t :: ts, d :: ds, env => (bindT t d env).bind fun env' => bindTs ts ds env'
  | _, _, _ => none
end
def wipeE (env : Env) : List Nat → Env
  | [] => env
  | i :: is => (wipeE env is).set i none
def forLoop (g : Option (Nat × List D)) (bd : D → Env → Option Env) (body : Env → Store → RS) : List D → Env → Store → RS
  | [], env, st => if guardOk g st then some (.next, env, st) else none
  | x :: xs, env, st => if guardOk g st then
      (bd x env).bind fun env1 => (body env1 st).bind fun r => match r with
        | (.ret d, env2, st2) => some (.ret d, env2, st2)
        | (.next, env2, st2) => forLoop g bd body xs env2 st2
    else none
def whileLoop (c : Env → Store → Option (Bool × Store)) (body : Env → Store → RS) : Nat → Env → Store → RS
  | 0, _, _ => none
  | n + 1, env, st => (c env st).bind fun r => match r with
    | (false, st1) => some (.next, env, st1)
    | (true, st1) => (body env st1).bind fun r => match r with
      | (.ret d, env2, st2) => some (.ret d, env2, st2)
      | (.next, env2, st2) => whileLoop c body n env2 st2
/-- a slice's bound, or none of it (told by True) -/
def asO (no : Bool) : R → Option (Option Int × Store)
  | some (.int i, st) => if no then none else some (some i, st)
  | some (_, st) => if no then some (none, st) else none
  | _ => none
def noneX : X → Bool
  | .none_ => true
  | _ => false
/-- one turn of a comprehension: what it adds; env0: its own names not set -/
def compOne (env0 : Env) (bd : D → Env → Option Env) (c : Env → Store → Option (Bool × Store)) (e : Env → Store → Option (List D × Store)) (x : D) (st : Store) : Option (List D × Store) :=
  (bd x env0).bind fun env1 => (c env1 st).bind fun r => if r.1 then e env1 r.2 else some ([], r.2)
/-- the items of a comprehension -/
def compLoop (g : Option (Nat × List D)) (one : D → Store → Option (List D × Store)) : List D → Store → Option (List D × Store)
  | [], st => if guardOk g st then some ([], st) else none
  | x :: xs, st => if guardOk g st then (one x st).bind fun r => (compLoop g one xs r.2).bind fun q => some (r.1 ++ q.1, q.2) else none
/-- a test's answer -/
def asB : R → Option (Bool × Store)
  | some (.bl b, st) => some (b, st)
  | _ => none
def rangeD (lo hi : Int) : List D := (List.range (hi - lo).toNat).map fun i => .int (lo + (i : Nat))
def lim62 (i : Int) : Bool := decide (-(2 ^ 62) ≤ i ∧ i < 2 ^ 62)

abbrev RI := Option (Option (Nat × List D) × List D × Store)
/-- what is walked: its guard and its items -/
def srcOf (d : D) (st : Store) : RI :=
  match d with
  | .tup ds => some (none, ds, st)
  | .lst ds => some (none, ds, st)
  | .loc n => match st[n]? with
    | some (.lst ds) => some (some (n, ds), ds, st)
    | _ => none
  | _ => none
def enumD : Nat → List D → List D
  | _, [] => []
  | i, d :: ds => .tup [.int (i : Nat), d] :: enumD (i + 1) ds
def zipD : List D → List D → List D
  | a :: x, b :: y => .tup [a, b] :: zipD x y
  | _, _ => []
def signsD (x : Str) : List D := x.cps.toList.map fun c => .str ⟨#[c]⟩
/-- texts in order of their signs -/
def leS (x y : Str) : Bool := !decide (y.cps.toList < x.cps.toList)
def insS (x : Str) : List Str → List Str
  | [] => [x]
  | y :: ys => if leS x y then x :: y :: ys else y :: insS x ys
def sortS : List Str → List Str
  | [] => []
  | x :: xs => insS x (sortS xs)
def strsOf : List D → Option (List Str)
  | [] => some []
  | .str x :: ds => (strsOf ds).map fun xs => x :: xs
  | _ => none
def intsOf : List D → Option (List Int)
  | [] => some []
  | .int x :: ds => (intsOf ds).map fun xs => x :: xs
  | _ => none
def blsOf : List D → Option (List Bool)
  | [] => some []
  | .bl x :: ds => (blsOf ds).map fun xs => x :: xs
  | _ => none
def maxI : List Int → Int
  | [] => 0
  | [x] => x
  | x :: xs => max x (maxI xs)
def minI : List Int → Int
  | [] => 0
  | [x] => x
  | x :: xs => min x (minI xs)
/-- a dict of pairs -/
def mergeD : List (Key × D) → List D → Option (List (Key × D))
  | acc, [] => some acc
  | acc, .tup [k, v] :: ds => (keyOf k).bind fun k => mergeD (dput acc k v) ds
  | _, _ => none
/-- keys and values, one after another -/
def dPairs : List D → Option (List (Key × D))
  | [] => some []
  | k :: v :: r => (keyOf k).bind fun k => (dPairs r).map fun ps => (k, v) :: ps
  | _ => none
def mergeP (acc ps : List (Key × D)) : List (Key × D) := ps.foldl (fun acc kv => dput acc kv.1 kv.2) acc
def lenD (st : Store) : D → Option Int
  | .str z => if z.length ≤ sizeLine then some z.length else none
  | d => (seqOf st d).map fun xs => (xs.length : Int)
def intD : D → Option Int
  | .int i => some i
  | .bl b => some (if b then 1 else 0)
  | .str x => if x.length ≤ 640 then PySem.intText? x else none
  | _ => none
def listD (m : Bool) (st : Store) : D → R
  | .frz ns => mkL m (ns.map D.int) st
  | d => match seqOf st d with
    | some xs => mkL m xs st
    | none => (dctOf st d).bind fun kvs => mkL m (kvs.map fun kv => unkey kv.1) st
def extD (f : List Int → Int) (st : Store) (d : D) : Option Int := (lstOf st d).bind fun xs => (intsOf xs).bind fun ns => if ns = [] then none else some (f ns)
/-- the built-ins -/
def biD (f : Bi) (m : Bool) (ds : List D) (st : Store) : R :=
  match f, ds with
  | .len, [d] => (lenD st d).map fun n => (.int n, st)
  | .int, [d] => (intD d).map fun n => (.int n, st)
  | .bool, [.bl b] => some (.bl b, st)
  | .abs, [.int i] => some (.int (if i < 0 then -i else i), st)
  | .max, [.int i, .int j] => some (.int (if j > i then j else i), st)
  | .min, [.int i, .int j] => some (.int (if j < i then j else i), st)
  | .max, [d] => (extD maxI st d).map fun n => (.int n, st)
  | .min, [d] => (extD minI st d).map fun n => (.int n, st)
  | .all, [d] => (lstOf st d).bind fun xs => (blsOf xs).map fun bs => (.bl (bs.all id), st)
  | .any, [d] => (lstOf st d).bind fun xs => (blsOf xs).map fun bs => (.bl (bs.any id), st)
  | .tuple, [d] => (seqOf st d).bind fun xs => mkT xs st
  | .list, [d] => listD m st d
  | .sorted, [d] => (lstOf st d).bind fun xs => (strsOf xs).bind fun ss => if ss.length < 64 then mkL m ((sortS ss).map D.str) st else none
  | _, _ => none
def setAt (xs : List D) (k : Int) (v : D) : Option (List D) := (ixN xs.length k).map fun j => xs.set j v
/-- o[i] = v of a list -/
def putL (o i v : D) (st : Store) : Option Store :=
  match o, i with
  | .loc n, .int k => match st[n]? with
    | some (.lst ds) => (setAt ds k v).map fun es => st.set n (.lst es)
    | _ => none
  | _, _ => none
/-- o[k] = v of a dict -/
def putK (o k v : D) (st : Store) : Option Store :=
  match o with
  | .loc n => match st[n]? with
    | some (.dct kvs) => (keyOf k).bind fun k => if kvs.length < sizeLine then some (st.set n (.dct (dput kvs k v))) else none
    | _ => none
  | _ => none
/-- the receiver is of the method's kind -/
def meOk (f : Me) (o : D) (st : Store) : Bool :=
  match f with
  | .popK => (dctOf st o).isSome
  | .get => (dctOf st o).isSome
  | _ => match o with
    | .loc _ => (lstOf st o).isSome
    | _ => false
/-- methods by name -/
def methD (f : Me) (o : D) (ds : List D) (st : Store) : R :=
  match f, o, ds with
  | .append, .loc n, [d] => match st[n]? with
    | some (.lst xs) => if xs.length < sizeLine then some (.non, st.set n (.lst (xs ++ [d]))) else none
    | _ => none
  | .pop, .loc n, [.int i] => match st[n]? with
    | some (.lst xs) => if lim62 i then (ixN xs.length i).bind fun j => (xs[j]?).map fun d => (d, st.set n (.lst (xs.eraseIdx j))) else none
    | _ => none
  | .insert, .loc n, [.int i, d] => match st[n]? with
    | some (.lst xs) => if xs.length < sizeLine ∧ 0 ≤ i ∧ i < 2 ^ 63 then some (.non, st.set n (.lst (xs.take i.toNat ++ [d] ++ xs.drop i.toNat))) else none
    | _ => none
  | .popK, .loc n, [k] => match st[n]? with
    | some (.dct kvs) => (keyOf k).bind fun k => (dget kvs k).map fun d => (d, st.set n (.dct (ddrop kvs k)))
    | _ => none
  | .get, o, [k] => (dctOf st o).bind fun kvs => (keyOf k).map fun k => ((dget kvs k).getD .non, st)
  | _, _, _ => none

def isNon : D → Bool
  | .non => true
  | _ => false
/-- a value's built-in type -/
def tyOf (st : Store) : D → Option String
  | .non => some "NoneType"
  | .bl _ => some "bool"
  | .int _ => some "int"
  | .str _ => some "str"
  | .tup _ => some "tuple"
  | .lst _ => some "list"
  | .loc n => match st[n]? with
    | some (.lst _) => some "list"
    | _ => none
  | .frz _ => none
def isTy (t u : String) : Bool := t == u || (t == "bool" && u == "int")
def isaD (st : Store) (tys : List String) (d : D) : Option Bool :=
  if tys.all fun u => u == "bool" || u == "int" || u == "str" || u == "tuple" || u == "list" then (tyOf st d).map fun t => tys.any fun u => isTy t u else none
mutual
def ev (C : Ctx) : X → Env → Store → R
  | .int i, _, st => some (.int i, st)
  | .str s, _, st => some (.str s, st)
  | .bl b, _, st => some (.bl b, st)
  | .non, _, st => some (.non, st)
  | .none_, _, st => some (.bl true, st)
  | .var i, env, st => match env[i]? with
    | some (some d) => some (d, st)
    | _ => none
  | .glb x, _, st => (C.cst x).map fun d => (d, st)
  | .bin op a b, env, st => (ev C a env st).bind fun r => (ev C b env r.2).bind fun q => binD op r.1 q.1 q.2
  | .cat m a b, env, st => (ev C a env st).bind fun r => (ev C b env r.2).bind fun q =>
      (lstOf q.2 r.1).bind fun xs => (lstOf q.2 q.1).bind fun ys => mkL m (xs ++ ys) q.2
  | .neg a, env, st => (ev C a env st).bind fun r => match r.1 with
    | .int i => some (.int (-i), r.2)
    | _ => none
  | .not a, env, st => (asB (ev C a env st)).map fun r => (.bl (!r.1), r.2)
  | .cmp op a b, env, st => (ev C a env st).bind fun r => (ev C b env r.2).bind fun q => (cmpD q.2 op r.1 q.1).map fun k => (.bl k, q.2)
  | .chain op op' a b c, env, st => (ev C a env st).bind fun r => (ev C b env r.2).bind fun q => (cmpD q.2 op r.1 q.1).bind fun k =>
      if k then (ev C c env q.2).bind fun p => (cmpD p.2 op' q.1 p.1).map fun k => (.bl k, p.2) else some (.bl false, q.2)
  | .isN a, env, st => (ev C a env st).map fun r => (.bl (isNon r.1), r.2)
  | .notN a, env, st => (ev C a env st).map fun r => (.bl (!isNon r.1), r.2)
  | .isB a b, env, st => (asB (ev C a env st)).map fun r => (.bl (decide (r.1 = b)), r.2)
  | .mem a b, env, st => (ev C a env st).bind fun r => (ev C b env r.2).bind fun q => (memD q.2 r.1 q.1).map fun k => (.bl k, q.2)
  | .notIn a b, env, st => (ev C a env st).bind fun r => (ev C b env r.2).bind fun q => (memD q.2 r.1 q.1).map fun k => (.bl (!k), q.2)
  | .memK a b, env, st => (ev C a env st).bind fun r => (ev C b env r.2).bind fun q => (dctOf q.2 q.1).bind fun kvs => (keyOf r.1).map fun k => (.bl (dget kvs k).isSome, q.2)
  | .notInK a b, env, st => (ev C a env st).bind fun r => (ev C b env r.2).bind fun q => (dctOf q.2 q.1).bind fun kvs => (keyOf r.1).map fun k => (.bl (!(dget kvs k).isSome), q.2)
  | .and es, env, st => evAnd C es env st
  | .or es, env, st => evOr C es env st
  | .ite c a b, env, st => (asB (ev C c env st)).bind fun r => if r.1 then ev C a env r.2 else ev C b env r.2
  | .tup es, env, st => (evL C es env st).bind fun r => mkT r.1 r.2
  | .lst m es, env, st => (evL C es env st).bind fun r => mkL m r.1 r.2
  | .star _, _, _ => none
  | .dct ks _, env, st => (evL C ks env st).bind fun r => (dPairs r.1).bind fun ps => if ps.length ≤ 15 then mkD (mergeP [] ps) r.2 else none
  | .sub a i, env, st => (ev C a env st).bind fun r => (ev C i env r.2).bind fun q => (subD q.2 r.1 q.1).map fun d => (d, q.2)
  | .subK a i, env, st => (ev C a env st).bind fun r => (ev C i env r.2).bind fun q => (dctOf q.2 r.1).bind fun kvs => (keyOf q.1).bind fun k => (dget kvs k).map fun d => (d, q.2)
  | .slice a lo hi, env, st => (ev C a env st).bind fun r => (asO (noneX lo) (ev C lo env r.2)).bind fun p => (asO (noneX hi) (ev C hi env p.2)).bind fun q => sliceD r.1 p.1 q.1 q.2
  | .rev a, env, st => (ev C a env st).bind fun r => (lstOf r.2 r.1).map fun ds => (.lst ds.reverse, r.2)
  | .call f es, env, st => (evL C es env st).bind fun r => C.call f r.1 r.2
  | .bi f m es, env, st => (evL C es env st).bind fun r => biD f m r.1 r.2
  | .lrange m a, env, st => (ev C a env st).bind fun r => match r.1 with
    | .int j => if 0 ≤ j ∧ j ≤ 1000000 then mkL m (rangeD 0 j) r.2 else none
    | _ => none
  | .isa tys a, env, st => (ev C a env st).bind fun r => (isaD r.2 tys r.1).map fun b => (.bl b, r.2)
  | .meth f o es, env, st => (ev C o env st).bind fun r => if meOk f r.1 r.2 then (evL C es env r.2).bind fun q => methD f r.1 q.1 q.2 else none
  | .comp own t it c e, env, st => (evIt C it env st).bind fun r =>
      (compLoop r.1 (compOne (wipeE env (own.map (·.2))) (bindT t) (fun env st => asB (ev C c env st)) fun env st => (ev C e env st).map fun q => ([q.1], q.2)) r.2.1 r.2.2).bind fun q =>
        if q.1.length ≤ sizeLine then some (.lst q.1, q.2) else none
  | .compK own t i c e, env, st => match env[i]? with
    | some (some (.loc n)) => match st[n]? with
      | some (.dct kvs) =>
        (compLoop none (compOne (wipeE env (own.map (·.2))) (bindT t) (fun env st => asB (ev C c env st)) fun env st => (ev C e env st).map fun q => ([q.1], q.2)) (kvs.map fun kv => unkey kv.1) (st.set n (.lck kvs))).bind fun q =>
          match q.2[n]? with
          | some (.lck kvs') => if q.1.length ≤ sizeLine then some (.lst q.1, q.2.set n (.dct kvs')) else none
          | _ => none
      | _ => none
    | _ => none
  | .comp2 own t it c own1 t1 it1 c1 e, env, st => (evIt C it env st).bind fun r =>
      (compLoop r.1 (compOne (wipeE env (own.map (·.2))) (bindT t) (fun env st => asB (ev C c env st)) fun env1 st1 => (evIt C it1 env1 st1).bind fun r1 =>
        compLoop r1.1 (compOne (wipeE env1 own1) (bindT t1) (fun env st => asB (ev C c1 env st)) fun env st => (ev C e env st).map fun q => ([q.1], q.2)) r1.2.1 r1.2.2) r.2.1 r.2.2).bind fun q =>
        if q.1.length ≤ sizeLine then some (.lst q.1, q.2) else none
  | .sortK a ky, env, st => none
def evAnd (C : Ctx) : List X → Env → Store → R
  | [], _, _ => none
  | [x], env, st => ev C x env st
  | x :: y :: xs, env, st => (asB (ev C x env st)).bind fun r => if r.1 then evAnd C (y :: xs) env r.2 else some (.bl false, r.2)
def evOr (C : Ctx) : List X → Env → Store → R
  | [], _, _ => none
  | [x], env, st => ev C x env st
  | x :: y :: xs, env, st => (asB (ev C x env st)).bind fun r => if r.1 then some (.bl true, r.2) else evOr C (y :: xs) env r.2
def evL (C : Ctx) : List X → Env → Store → Option (List D × Store)
  | [], _, st => some ([], st)
  | .star a :: es, env, st => (ev C a env st).bind fun r => (seqOf r.2 r.1).bind fun xs => (evL C es env r.2).map fun q => (xs ++ q.1, q.2)
  | e :: es, env, st => (ev C e env st).bind fun r => (evL C es env r.2).map fun q => (r.1 :: q.1, q.2)
def evIt (C : Ctx) : It → Env → Store → RI
  | .seq a, env, st => (ev C a env st).bind fun r => srcOf r.1 r.2
  | .rng1 a, env, st => (ev C a env st).bind fun r => match r.1 with
    | .int j => if lim62 j then some (none, rangeD 0 j, r.2) else none
    | _ => none
  | .rng2 a b, env, st => (ev C a env st).bind fun r => (ev C b env r.2).bind fun q => match r.1, q.1 with
    | .int i, .int j => if lim62 i && lim62 j then some (none, rangeD i j, q.2) else none
    | _, _ => none
  | .enum a, env, st => (ev C a env st).bind fun r => (srcOf r.1 r.2).map fun q => (q.1, enumD 0 q.2.1, q.2.2)
  | .zip a b, env, st => (ev C a env st).bind fun r => (ev C b env r.2).bind fun q => match r.1, q.1 with
    | .tup xs, .tup ys => some (none, zipD xs ys, q.2)
    | _, _ => none
  | .chars a, env, st => (ev C a env st).bind fun r => match r.1 with
    | .str x => some (none, signsD x, r.2)
    | _ => none
end
mutual
/-- a target stored -/
def stT (C : Ctx) : Tt → D → Env → Store → Option (Env × Store)
  | .name i, d, env, st => if i < env.length then some (env.set i (some d), st) else none
  | .tup ts, d, env, st => match d with
    | .tup ds => if ds.length = ts.length then stTs C ts ds env st else none
    | _ => none
  | .sub o i, d, env, st => (ev C o env st).bind fun r => (ev C i env r.2).bind fun q => (putL r.1 q.1 d q.2).map fun st' => (env, st')
  | .subK o i, d, env, st => (ev C o env st).bind fun r => (ev C i env r.2).bind fun q => (putK r.1 q.1 d q.2).map fun st' => (env, st')
def stTs (C : Ctx) : List Tt → List D → Env → Store → Option (Env × Store)
  | [], [], env, st => some (env, st)
  | t :: ts, d :: ds, env, st => (stT C t d env st).bind fun r => stTs C ts ds r.1 r.2
  | _, _, _, _ => none
end
def setAll : List Nat → List D → Env → Option Env
  | [], [], env => some env
  | i :: is, d :: ds, env => if i < env.length then setAll is ds (env.set i (some d)) else none
  | _, _, _ => none
mutual
def exS (C : Ctx) : S → Env → Store → RS
  | .pass, env, st => some (.next, env, st)
  | .set t e, env, st => (ev C e env st).bind fun r => (stT C t r.1 env r.2).map fun q => (.next, q.1, q.2)
  | .par ts es, env, st => (evL C es env st).bind fun r => (setAll ts r.1 env).map fun env' => (.next, env', r.2)
  | .aug i op e, env, st => match env[i]? with
    | some (some (.int x)) => (ev C e env st).bind fun r => match op, r.1 with
      | .Add, .int y => some (.next, env.set i (some (.int (x + y))), r.2)
      | .Sub, .int y => some (.next, env.set i (some (.int (x - y))), r.2)
      | _, _ => none
    | _ => none
  | .expr e, env, st => (ev C e env st).map fun r => (.next, env, r.2)
  | .ite c a b, env, st => (asB (ev C c env st)).bind fun r => if r.1 then exL C a env r.2 else exL C b env r.2
  | .for_ t it b, env, st => (evIt C it env st).bind fun r => forLoop r.1 (bindT t) (exL C b) r.2.1 env r.2.2
  | .while_ c b, env, st => whileLoop (fun env st => asB (ev C c env st)) (exL C b) C.turns env st
  | .ret e, env, st => (ev C e env st).map fun r => (.ret r.1, env, r.2)
  | .retN, env, st => some (.ret .non, env, st)
  | .never, _, _ => none
def exL (C : Ctx) : List S → Env → Store → RS
  | [], env, st => some (.next, env, st)
  | s :: ss, env, st => (exS C s env st).bind fun r => match r with
    | (.ret d, env', st') => some (.ret d, env', st')
    | (.next, env', st') => exL C ss env' st'
end
/-- a def called -/
def runDef (C : Ctx) (d : Def) (ds : List D) (st : Store) : R :=
  if ds.length = d.arity then
    (exL C d.body (ds.map some ++ List.replicate (d.names.length - d.arity) none) st).map fun r => match r with
      | (.ret v, _, st') => (v, st')
      | (.next, _, st') => (.non, st')
  else none
/-- defs by name, calls at most k deep -/
def callN (cst : Str → Option D) (turns : Nat) (tab : Str → Option Def) : Nat → Str → List D → Store → R
  | 0, _, _, _ => none
  | k + 1, f, ds, st => match tab f with
    | some d => runDef { cst := cst, call := callN cst turns tab k, turns := turns } d ds st
    | none => none
end Q

/-! QRel: what data stands at what values of the abstract heap. -/
namespace Q
open PySem L2

/-- a tuple of the written part -/
def KT (K : PySem.W.Frag) (a : Addr) (xs : List V) : Prop :=
  ∃ (o : Obj) (its : Array Value) (n : Nat), K.lookup a = some o ∧ o.cls = .type "tuple" ∧ o.data = .seq its n ∧ its.size ≤ sizeLine ∧ Vals xs its.toList
def KL (K : PySem.W.Frag) (a : Addr) (xs : List V) : Prop :=
  ∃ (o : Obj) (its : Array Value) (n : Nat), K.lookup a = some o ∧ o.cls = .type "list" ∧ o.dict = none ∧ o.data = .seq its n ∧ its.size ≤ sizeLine ∧ Vals xs its.toList
def TupAt (K : PySem.W.Frag) (Z : Addr → Prop) (H : Hp) (a : Addr) (xs : List V) : Prop := (H a = some (.tup xs) ∧ ¬ Z a) ∨ KT K a xs
theorem TupAt.sq {K : PySem.W.Frag} {Z : Addr → Prop} {H : Hp} {a : Addr} {xs : List V} (h : TupAt K Z H a xs) : SqT K H a xs := by
  rcases h with h | h
  · exact .inl (.inl h.1)
  · exact .inr h
section
variable (K : PySem.W.Frag) (ρ : List Addr) (Z : Addr → Prop) (H : Hp)
mutual
/-- the data d is what v is, in H: no object of Z within (but places) -/
def Rep : D → V → Prop
  | .non, v => v = .non
  | .bl b, v => v = .bl b
  | .int i, v => v = .int i
  | .str s, v => v = .str s ∧ PySem.PyData.strOk s = true
  | .tup ds, v => ∃ a vs, v = .ref a ∧ TupAt K Z H a vs ∧ Reps ds vs
  | .lst ds, v => ∃ a vs, v = .ref a ∧ (H a = some (.lst vs) ∧ ¬ Z a) ∧ Reps ds vs
  | .loc n, v => ∃ a, v = .ref a ∧ ρ[n]? = some a
  | .frz ns, v => ∃ a, v = .ref a ∧ ((∃ o, H a = some (.frz o (.lst (ns.map V.int)))) ∨ KL K a (ns.map V.int))
def Reps : List D → List V → Prop
  | [], vs => vs = []
  | d :: ds, vs => ∃ v r, vs = v :: r ∧ Rep d v ∧ Reps ds r
end
end
section
variable {K : PySem.W.Frag} {ρ : List Addr} {Z : Addr → Prop} {H : Hp}
theorem reps_iff : ∀ {ds : List D} {vs : List V}, Reps K ρ Z H ds vs ↔ ds.length = vs.length ∧ ∀ (i : Nat) (d : D) (v : V), ds[i]? = some d → vs[i]? = some v → Rep K ρ Z H d v
  | [], vs => by
    simp only [Reps]
    constructor
    · rintro rfl; simp
    · rintro ⟨h, _⟩
      exact List.eq_nil_of_length_eq_zero h.symm
  | d :: ds, vs => by
    simp only [Reps]
    constructor
    · rintro ⟨v, r, rfl, h1, h2⟩
      obtain ⟨h3, h4⟩ := reps_iff.mp h2
      refine ⟨by simp [h3], fun i d' v' e1 e2 => ?_⟩
      cases i with
      | zero => simp at e1 e2; subst e1; subst e2; exact h1
      | succ i => exact h4 i d' v' (by simpa using e1) (by simpa using e2)
    · rintro ⟨h, h2⟩
      cases vs with
      | nil => simp at h
      | cons v r =>
        exact ⟨v, r, rfl, h2 0 d v rfl rfl, reps_iff.mpr ⟨by simpa using h, fun i d' v' e1 e2 => h2 (i + 1) d' v' (by simpa using e1) (by simpa using e2)⟩⟩
theorem Reps.len {ds : List D} {vs : List V} (h : Reps K ρ Z H ds vs) : ds.length = vs.length := (reps_iff.mp h).1
theorem Reps.get {ds : List D} {vs : List V} (h : Reps K ρ Z H ds vs) {i : Nat} {d : D} (e : ds[i]? = some d) : ∃ v, vs[i]? = some v ∧ Rep K ρ Z H d v := by
  obtain ⟨h1, h2⟩ := reps_iff.mp h
  have hi : i < vs.length := by rw [← h1]; exact (List.getElem?_eq_some_iff.mp e).1
  exact ⟨vs[i], List.getElem?_eq_getElem hi, h2 i d _ e (List.getElem?_eq_getElem hi)⟩
theorem Reps.get' {ds : List D} {vs : List V} (h : Reps K ρ Z H ds vs) {i : Nat} {v : V} (e : vs[i]? = some v) : ∃ d, ds[i]? = some d ∧ Rep K ρ Z H d v := by
  obtain ⟨h1, h2⟩ := reps_iff.mp h
  have hi : i < ds.length := by rw [h1]; exact (List.getElem?_eq_some_iff.mp e).1
  exact ⟨ds[i], List.getElem?_eq_getElem hi, h2 i _ v (List.getElem?_eq_getElem hi) e⟩
theorem Reps.nil : Reps K ρ Z H [] [] := by simp [Reps]
theorem Reps.cons {d : D} {ds : List D} {v : V} {vs : List V} (h : Rep K ρ Z H d v) (t : Reps K ρ Z H ds vs) : Reps K ρ Z H (d :: ds) (v :: vs) := by
  simp only [Reps]; exact ⟨v, vs, rfl, h, t⟩
theorem Reps.append : ∀ {ds es : List D} {vs ws : List V}, Reps K ρ Z H ds vs → Reps K ρ Z H es ws → Reps K ρ Z H (ds ++ es) (vs ++ ws)
  | [], _, _, _, h, h2 => by simp only [Reps] at h; subst h; exact h2
  | d :: ds, _, _, _, h, h2 => by
    simp only [Reps] at h
    obtain ⟨v, r, rfl, h1, h3⟩ := h
    exact .cons h1 (Reps.append h3 h2)
theorem Reps.of_get {ds : List D} {vs : List V} (hl : ds.length = vs.length) (h : ∀ (i : Nat) (d : D) (v : V), ds[i]? = some d → vs[i]? = some v → Rep K ρ Z H d v) : Reps K ρ Z H ds vs := reps_iff.mpr ⟨hl, h⟩
theorem Reps.take {ds : List D} {vs : List V} (n : Nat) (h : Reps K ρ Z H ds vs) : Reps K ρ Z H (ds.take n) (vs.take n) := by
  obtain ⟨h1, h2⟩ := reps_iff.mp h
  refine .of_get (by simp [h1]) fun i d v e1 e2 => ?_
  rw [List.getElem?_take] at e1 e2
  split at e1
  · rename_i hi
    rw [if_pos hi] at e2
    exact h2 i d v e1 e2
  · cases e1
theorem Reps.drop {ds : List D} {vs : List V} (n : Nat) (h : Reps K ρ Z H ds vs) : Reps K ρ Z H (ds.drop n) (vs.drop n) := by
  obtain ⟨h1, h2⟩ := reps_iff.mp h
  refine .of_get (by simp [h1]) fun i d v e1 e2 => ?_
  rw [List.getElem?_drop] at e1 e2
  exact h2 _ d v e1 e2
theorem Reps.set {ds : List D} {vs : List V} {d : D} {v : V} (n : Nat) (h : Reps K ρ Z H ds vs) (hd : Rep K ρ Z H d v) : Reps K ρ Z H (ds.set n d) (vs.set n v) := by
  obtain ⟨h1, h2⟩ := reps_iff.mp h
  refine .of_get (by simp [h1]) fun i d' v' e1 e2 => ?_
  rw [List.getElem?_set] at e1 e2
  split at e1
  · rename_i hi
    rw [if_pos hi] at e2
    split at e1
    · split at e2
      · cases e1; cases e2; exact hd
      · cases e2
    · cases e1
  · rename_i hi
    rw [if_neg hi] at e2
    exact h2 i d' v' e1 e2
theorem Reps.erase {ds : List D} {vs : List V} (n : Nat) (h : Reps K ρ Z H ds vs) : Reps K ρ Z H (ds.eraseIdx n) (vs.eraseIdx n) := by
  rw [List.eraseIdx_eq_take_drop_succ, List.eraseIdx_eq_take_drop_succ]
  exact (h.take n).append (h.drop (n + 1))
theorem Reps.ints : ∀ ns : List Int, Reps K ρ Z H (ns.map D.int) (ns.map V.int)
  | [] => .nil
  | n :: ns => .cons (by simp [Rep]) (Reps.ints ns)
theorem Reps.eq_ints : ∀ {ds : List D} {vs : List V} {ns : List Int}, Reps K ρ Z H ds vs → intsOf ds = some ns → vs = ns.map V.int
  | [], vs, ns, h, e => by
    simp only [Reps] at h; simp only [intsOf] at e; cases e; exact h
  | d :: ds, vs, ns, h, e => by
    simp only [Reps] at h
    obtain ⟨v, r, rfl, h1, h2⟩ := h
    cases d with
    | int x =>
      simp only [intsOf] at e
      cases e2 : intsOf ds with
      | none => rw [e2] at e; cases e
      | some xs =>
        rw [e2] at e
        cases e
        simp only [Rep] at h1
        rw [h1, Reps.eq_ints h2 e2]; rfl
    | _ => simp only [intsOf] at e; cases e
theorem Reps.eq_strs : ∀ {ds : List D} {vs : List V} {ns : List Str}, Reps K ρ Z H ds vs → strsOf ds = some ns → vs = ns.map V.str ∧ ∀ x ∈ ns, PySem.PyData.strOk x = true
  | [], vs, ns, h, e => by
    simp only [Reps] at h; simp only [strsOf] at e; cases e; exact ⟨h, by simp⟩
  | d :: ds, vs, ns, h, e => by
    simp only [Reps] at h
    obtain ⟨v, r, rfl, h1, h2⟩ := h
    cases d with
    | str x =>
      simp only [strsOf] at e
      cases e2 : strsOf ds with
      | none => rw [e2] at e; cases e
      | some xs =>
        rw [e2] at e
        cases e
        simp only [Rep] at h1
        obtain ⟨h3, h4⟩ := Reps.eq_strs h2 e2
        rw [h1.1, h3]
        refine ⟨rfl, fun y hy => ?_⟩
        rcases List.mem_cons.mp hy with rfl | hy
        · exact h1.2
        · exact h4 y hy
    | _ => simp only [strsOf] at e; cases e
theorem Reps.eq_bls : ∀ {ds : List D} {vs : List V} {ns : List Bool}, Reps K ρ Z H ds vs → blsOf ds = some ns → vs = ns.map V.bl
  | [], vs, ns, h, e => by
    simp only [Reps] at h; simp only [blsOf] at e; cases e; exact h
  | d :: ds, vs, ns, h, e => by
    simp only [Reps] at h
    obtain ⟨v, r, rfl, h1, h2⟩ := h
    cases d with
    | bl x =>
      simp only [blsOf] at e
      cases e2 : blsOf ds with
      | none => rw [e2] at e; cases e
      | some xs =>
        rw [e2] at e
        cases e
        simp only [Rep] at h1
        rw [h1, Reps.eq_bls h2 e2]; rfl
    | _ => simp only [blsOf] at e; cases e
theorem Reps.strs {ss : List Str} (h : ∀ x ∈ ss, PySem.PyData.strOk x = true) : Reps K ρ Z H (ss.map D.str) (ss.map V.str) := by
  refine .of_get (by simp) fun i d v e1 e2 => ?_
  rw [List.getElem?_map] at e1 e2
  cases e : ss[i]? with
  | none => rw [e] at e1; cases e1
  | some x =>
    rw [e] at e1 e2
    cases e1; cases e2
    show Rep K ρ Z H (.str x) (.str x)
    simp only [Rep]
    exact ⟨trivial, h x (List.mem_of_getElem? e)⟩
end

/-- what a step keeps -/
structure Fr (ρ : List Addr) (Z : Addr → Prop) (H : Hp) (ρ' : List Addr) (Z' : Addr → Prop) (H' : Hp) : Prop where
  pre : ∃ r, ρ' = ρ ++ r
  keep : ∀ a o, H a = some o → a ∉ ρ → (∀ ps, o ≠ .tbl ps) → H' a = some o
  ex : ∀ a o, H a = some o → (Z' a ↔ Z a)
  dom : ∀ a o, H a = some o → ∃ o', H' a = some o'
  frz : ∀ a o u, H a = some (.frz o u) → H' a = some (.frz o u)
  new : ∀ a ∈ ρ', a ∈ ρ ∨ H a = none
def KReps (K : PySem.W.Frag) (ρ : List Addr) (Z : Addr → Prop) (H : Hp) (kvs : List (Key × D)) (ws : List (Key × V)) : Prop :=
  kvs.map (·.1) = ws.map (·.1) ∧ Reps K ρ Z H (kvs.map (·.2)) (ws.map (·.2)) ∧ ∀ z : Str, Sum.inr z ∈ kvs.map (·.1) → PySem.PyData.strOk z = true
def ObjAt (K : PySem.W.Frag) (ρ : List Addr) (Z : Addr → Prop) (H : Hp) (a : Addr) : SO → Prop
  | .lst ds => ∃ vs, H a = some (.lst vs) ∧ Reps K ρ Z H ds vs
  | .dct kvs => ∃ ws, H a = some (.dK ws) ∧ KReps K ρ Z H kvs ws
  | .lck kvs => ∃ o ws, H a = some (.frz o (.dK ws)) ∧ KReps K ρ Z H kvs ws
structure RelS (K : PySem.W.Frag) (T : List (Addr × Str)) (ρ : List Addr) (Z : Addr → Prop) (st : Store) (H : Hp) : Prop where
  len : ρ.length = st.length
  nd : ρ.Nodup
  sub : ∀ a ∈ ρ, Z a
  dom : ∀ a, Z a → ∃ o, H a = some o
  obj : ∀ (n : Nat) (a : Addr) (so : SO), ρ[n]? = some a → st[n]? = some so → ObjAt K ρ Z H a so
  tabs : LamX.Tabs T H

section
variable {K : PySem.W.Frag} {T : List (Addr × Str)} {ρ ρ' ρ'' : List Addr} {Z Z' Z'' : Addr → Prop} {H H' H'' : Hp} {st st' : Store}
theorem Fr.refl : Fr ρ Z H ρ Z H := ⟨⟨[], by simp⟩, fun _ _ h _ _ => h, fun _ _ _ => Iff.rfl, fun _ o h => ⟨o, h⟩, fun _ _ _ h => h, fun _ h => .inl h⟩
theorem Fr.trans (a : Fr ρ Z H ρ' Z' H') (b : Fr ρ' Z' H' ρ'' Z'' H'') : Fr ρ Z H ρ'' Z'' H'' := by
  obtain ⟨r, e⟩ := a.pre
  obtain ⟨r', e'⟩ := b.pre
  refine ⟨⟨r ++ r', by rw [e', e, List.append_assoc]⟩, fun c o h hn ht => ?_, fun c o h => ?_, fun c o h => ?_, fun c o u h => b.frz _ _ _ (a.frz _ _ _ h), fun c hc => ?_⟩
  · refine b.keep c o (a.keep c o h hn ht) (fun hc => ?_) ht
    rcases a.new c hc with z | z
    · exact hn z
    · rw [h] at z; cases z
  · obtain ⟨o', h'⟩ := a.dom c o h
    exact (b.ex c o' h').trans (a.ex c o h)
  · obtain ⟨o', h'⟩ := a.dom c o h
    exact b.dom c o' h'
  · rcases b.new c hc with z | z
    · exact a.new c z
    · right
      cases q : H c with
      | none => rfl
      | some o =>
        obtain ⟨o', h'⟩ := a.dom c o q
        rw [z] at h'; cases h'
/-- what a reading leans on -/
structure Fz (ρ : List Addr) (Z : Addr → Prop) (H : Hp) (ρ' : List Addr) (Z' : Addr → Prop) (H' : Hp) : Prop where
  pre : ∃ r, ρ' = ρ ++ r
  keep : ∀ a o, H a = some o → ¬ Z a → (∀ ps, o ≠ .tbl ps) → H' a = some o
  ex : ∀ a o, H a = some o → Z' a → Z a
  frz : ∀ a o u, H a = some (.frz o u) → H' a = some (.frz o u)
theorem Fr.fz (sub : ∀ a ∈ ρ, Z a) (f : Fr ρ Z H ρ' Z' H') : Fz ρ Z H ρ' Z' H' := ⟨f.pre, fun a o h hz => f.keep a o h fun z => hz (sub a z), fun a o h => (f.ex a o h).mp, f.frz⟩
mutual
theorem Rep.mz (f : Fz ρ Z H ρ' Z' H') : ∀ (d : D) (v : V), Rep K ρ Z H d v → Rep K ρ' Z' H' d v
  | .non, v, h => by simpa only [Rep] using h
  | .bl _, v, h => by simpa only [Rep] using h
  | .int _, v, h => by simpa only [Rep] using h
  | .str _, v, h => by simpa only [Rep] using h
  | .tup ds, v, h => by
    simp only [Rep] at h ⊢
    obtain ⟨a, vs, rfl, h1, h2⟩ := h
    refine ⟨a, vs, rfl, ?_, Reps.mz f ds vs h2⟩
    rcases h1 with ⟨h1, h3⟩ | h1
    · exact .inl ⟨f.keep a _ h1 h3 (fun _ z => nomatch z), fun z => h3 (f.ex a _ h1 z)⟩
    · exact .inr h1
  | .lst ds, v, h => by
    simp only [Rep] at h ⊢
    obtain ⟨a, vs, rfl, ⟨h1, h3⟩, h2⟩ := h
    exact ⟨a, vs, rfl, ⟨f.keep a _ h1 h3 (fun _ z => nomatch z), fun z => h3 (f.ex a _ h1 z)⟩, Reps.mz f ds vs h2⟩
  | .loc n, v, h => by
    simp only [Rep] at h ⊢
    obtain ⟨a, rfl, h1⟩ := h
    obtain ⟨r, e⟩ := f.pre
    refine ⟨a, rfl, ?_⟩
    rw [e, List.getElem?_append_left (List.getElem?_eq_some_iff.mp h1).1]
    exact h1
  | .frz ns, v, h => by
    simp only [Rep] at h ⊢
    obtain ⟨a, rfl, h⟩ := h
    refine ⟨a, rfl, ?_⟩
    rcases h with ⟨o, h⟩ | h
    · exact .inl ⟨o, f.frz _ _ _ h⟩
    · exact .inr h
theorem Reps.mz (f : Fz ρ Z H ρ' Z' H') : ∀ (ds : List D) (vs : List V), Reps K ρ Z H ds vs → Reps K ρ' Z' H' ds vs
  | [], vs, h => by simpa only [Reps] using h
  | d :: ds, vs, h => by
    simp only [Reps] at h ⊢
    obtain ⟨v, r, e, h1, h2⟩ := h
    exact ⟨v, r, e, Rep.mz f d v h1, Reps.mz f ds r h2⟩
end
theorem Fz.refl : Fz ρ Z H ρ Z H := ⟨⟨[], by simp⟩, fun _ _ h _ _ => h, fun _ _ _ z => z, fun _ _ _ h => h⟩
theorem Fz.trans (a : Fz ρ Z H ρ' Z' H') (dom : ∀ c o, H c = some o → ∃ o', H' c = some o') (b : Fz ρ' Z' H' ρ'' Z'' H'') : Fz ρ Z H ρ'' Z'' H'' := by
  obtain ⟨r, e⟩ := a.pre
  obtain ⟨r', e'⟩ := b.pre
  refine ⟨⟨r ++ r', by rw [e', e, List.append_assoc]⟩, fun c o h hz ht => ?_, fun c o h z => ?_, fun c o u h => b.frz _ _ _ (a.frz _ _ _ h)⟩
  · have h' := a.keep c o h hz ht
    exact b.keep c o h' (fun z => hz (a.ex c o h z)) ht
  · obtain ⟨o', h'⟩ := dom c o h
    exact a.ex c o h (b.ex c o' h' z)
theorem Rep.mono (sub : ∀ a ∈ ρ, Z a) (f : Fr ρ Z H ρ' Z' H') (d : D) (v : V) (h : Rep K ρ Z H d v) : Rep K ρ' Z' H' d v := Rep.mz (f.fz sub) d v h
theorem Reps.mono (sub : ∀ a ∈ ρ, Z a) (f : Fr ρ Z H ρ' Z' H') (ds : List D) (vs : List V) (h : Reps K ρ Z H ds vs) : Reps K ρ' Z' H' ds vs := Reps.mz (f.fz sub) ds vs h
mutual
/-- fewer forbidden objects -/
theorem Rep.anti (hz : ∀ a, Z' a → Z a) : ∀ (d : D) (v : V), Rep K ρ Z H d v → Rep K ρ Z' H d v
  | .non, v, h => by simpa only [Rep] using h
  | .bl _, v, h => by simpa only [Rep] using h
  | .int _, v, h => by simpa only [Rep] using h
  | .str _, v, h => by simpa only [Rep] using h
  | .tup ds, v, h => by
    simp only [Rep] at h ⊢
    obtain ⟨a, vs, rfl, h1, h2⟩ := h
    refine ⟨a, vs, rfl, ?_, Reps.anti hz ds vs h2⟩
    rcases h1 with ⟨h1, h3⟩ | h1
    · exact .inl ⟨h1, fun z => h3 (hz a z)⟩
    · exact .inr h1
  | .lst ds, v, h => by
    simp only [Rep] at h ⊢
    obtain ⟨a, vs, rfl, ⟨h1, h3⟩, h2⟩ := h
    exact ⟨a, vs, rfl, ⟨h1, fun z => h3 (hz a z)⟩, Reps.anti hz ds vs h2⟩
  | .loc n, v, h => by simpa only [Rep] using h
  | .frz ns, v, h => by simpa only [Rep] using h
theorem Reps.anti (hz : ∀ a, Z' a → Z a) : ∀ (ds : List D) (vs : List V), Reps K ρ Z H ds vs → Reps K ρ Z' H ds vs
  | [], vs, h => by simpa only [Reps] using h
  | d :: ds, vs, h => by
    simp only [Reps] at h ⊢
    obtain ⟨v, r, e, h1, h2⟩ := h
    exact ⟨v, r, e, Rep.anti hz d v h1, Reps.anti hz ds r h2⟩
end
theorem KReps.mono (sub : ∀ a ∈ ρ, Z a) (f : Fr ρ Z H ρ' Z' H') {kvs : List (Key × D)} {ws : List (Key × V)} (h : KReps K ρ Z H kvs ws) : KReps K ρ' Z' H' kvs ws := ⟨h.1, Reps.mono sub f _ _ h.2.1, h.2.2⟩
theorem KReps.mz (f : Fz ρ Z H ρ' Z' H') {kvs : List (Key × D)} {ws : List (Key × V)} (h : KReps K ρ Z H kvs ws) : KReps K ρ' Z' H' kvs ws := ⟨h.1, Reps.mz f _ _ h.2.1, h.2.2⟩
theorem KReps.anti (hz : ∀ a, Z' a → Z a) {kvs : List (Key × D)} {ws : List (Key × V)} (h : KReps K ρ Z H kvs ws) : KReps K ρ Z' H kvs ws := ⟨h.1, h.2.1.anti hz, h.2.2⟩
theorem ObjAt.tracked {a : Addr} {so : SO} (h : ObjAt K ρ Z H a so) : (∃ vs, H a = some (.lst vs)) ∨ (∃ ws, H a = some (.dK ws)) ∨ ∃ o u, H a = some (.frz o u) := by
  cases so with
  | lst ds => obtain ⟨vs, h, _⟩ := h; exact .inl ⟨vs, h⟩
  | dct kvs => obtain ⟨vs, h, _⟩ := h; exact .inr (.inl ⟨vs, h⟩)
  | lck kvs => obtain ⟨o, vs, h, _⟩ := h; exact .inr (.inr ⟨o, _, h⟩)
theorem RelS.at (r : RelS K T ρ Z st H) {n : Nat} {a : Addr} (h : ρ[n]? = some a) : ∃ so, st[n]? = some so ∧ ObjAt K ρ Z H a so := by
  have hn : n < st.length := by rw [← r.len]; exact (List.getElem?_eq_some_iff.mp h).1
  exact ⟨st[n], List.getElem?_eq_getElem hn, r.obj n a _ h (List.getElem?_eq_getElem hn)⟩
theorem RelS.untup (r : RelS K T ρ Z st H) {a : Addr} (h : a ∈ ρ) : (∀ vs, H a ≠ some (.tup vs)) ∧ (∀ ps, H a ≠ some (.tbl ps)) ∧ (∀ φ, H a ≠ some (.ext φ)) := by
  obtain ⟨n, hn⟩ := List.getElem?_of_mem h
  obtain ⟨so, _, h2⟩ := r.at hn
  have no : ∀ {x y : HO}, x ≠ y → some x ≠ some y := fun h e => h (Option.some.inj e)
  rcases h2.tracked with ⟨vs, e⟩ | ⟨vs, e⟩ | ⟨o, u, e⟩ <;> rw [e] <;> exact ⟨fun _ => no (by simp), fun _ => no (by simp), fun _ => no (by simp)⟩
/-- tables stay where the places of the store alone change -/
theorem RelS.tabs_of (r : RelS K T ρ Z st H) (h : ∀ a o, H a = some o → a ∉ ρ → H' a = some o) : LamX.Tabs T H' := fun p hp => by
  obtain ⟨ps, h1, h2, h3⟩ := r.tabs p hp
  refine ⟨ps, h _ _ h1 (fun z => (r.untup z).2.1 _ h1), h2, fun pos cv hc => ?_⟩
  obtain ⟨c, e1, e2⟩ := h3 pos cv hc
  exact ⟨c, e1, h _ _ e2 (fun z => (r.untup z).2.2 _ e2)⟩
/-- a new object that is no place -/
theorem fr_new {p : Addr} {o : HO} (hp : H p = none) : Fr ρ Z H ρ Z (upd H p o) := by
  have k : ∀ a o', H a = some o' → upd H p o a = some o' := fun a o' h => by rw [upd_ne (ne_of_none h hp)]; exact h
  exact ⟨⟨[], by simp⟩, fun a o' h _ _ => k a o' h, fun _ _ _ => Iff.rfl, fun a o' h => ⟨o', k a o' h⟩, fun a o' u h => k a _ h, fun _ h => .inl h⟩
theorem RelS.new {p : Addr} {o : HO} (r : RelS K T ρ Z st H) (hp : H p = none) : RelS K T ρ Z st (upd H p o) := by
  have k : ∀ a o', H a = some o' → upd H p o a = some o' := fun a o' h => by rw [upd_ne (ne_of_none h hp)]; exact h
  refine ⟨r.len, r.nd, r.sub, fun a h => ?_, fun n a so h1 h2 => ?_, r.tabs_of fun a o' h _ => k a o' h⟩
  · obtain ⟨o', h'⟩ := r.dom a h
    exact ⟨o', k a o' h'⟩
  · have f : Fr ρ Z H ρ Z (upd H p o) := fr_new hp
    have q := r.obj n a so h1 h2
    cases so with
    | lst ds => obtain ⟨vs, e, q⟩ := q; exact ⟨vs, k _ _ e, Reps.mono r.sub f _ _ q⟩
    | dct kvs => obtain ⟨vs, e, q⟩ := q; exact ⟨vs, k _ _ e, q.mono r.sub f⟩
    | lck kvs => obtain ⟨ob, vs, e, q⟩ := q; exact ⟨ob, vs, k _ _ e, q.mono r.sub f⟩
theorem RelS.free (r : RelS K T ρ Z st H) {p : Addr} (hp : H p = none) : ¬ Z p := fun z => by
  obtain ⟨o, h⟩ := r.dom p z
  rw [hp] at h; cases h
/-- a new place -/
theorem fr_place {p : Addr} {o : HO} (hp : H p = none) : Fr ρ Z H (ρ ++ [p]) (fun a => Z a ∨ a = p) (upd H p o) := by
  have k : ∀ a o', H a = some o' → upd H p o a = some o' := fun a o' h => by rw [upd_ne (ne_of_none h hp)]; exact h
  refine ⟨⟨[p], rfl⟩, fun a o' h _ _ => k a o' h, fun a o' h => ⟨fun z => ?_, .inl⟩, fun a o' h => ⟨o', k a o' h⟩, fun a o' u h => k a _ h, fun a h => ?_⟩
  · rcases z with z | z
    · exact z
    · exact absurd z (ne_of_none h hp)
  · rcases List.mem_append.mp h with h | h
    · exact .inl h
    · have e : a = p := by simpa using h
      subst e
      exact .inr hp
theorem RelS.place {p : Addr} {o : HO} {so : SO} (r : RelS K T ρ Z st H) (hp : H p = none) (ho : ObjAt K (ρ ++ [p]) (fun a => Z a ∨ a = p) (upd H p o) p so) :
    RelS K T (ρ ++ [p]) (fun a => Z a ∨ a = p) (st ++ [so]) (upd H p o) := by
  have k : ∀ a o', H a = some o' → upd H p o a = some o' := fun a o' h => by rw [upd_ne (ne_of_none h hp)]; exact h
  have hf : Fr ρ Z H (ρ ++ [p]) (fun a => Z a ∨ a = p) (upd H p o) := fr_place hp
  refine ⟨by simp [r.len], ?_, fun a h => ?_, fun a h => ?_, fun n a so' h1 h2 => ?_, r.tabs_of fun a o' h _ => k a o' h⟩
  · rw [List.nodup_append]
    refine ⟨r.nd, by simp, fun a ha b hb e => ?_⟩
    have eb : b = p := by simpa using hb
    subst e; subst eb
    exact r.free hp (r.sub _ ha)
  · rcases List.mem_append.mp h with h | h
    · exact .inl (r.sub a h)
    · exact .inr (by simpa using h)
  · rcases h with h | rfl
    · obtain ⟨o', h'⟩ := r.dom a h
      exact ⟨o', k a o' h'⟩
    · exact ⟨o, upd_same⟩
  · by_cases hn : n < ρ.length
    · rw [List.getElem?_append_left hn] at h1
      rw [List.getElem?_append_left (by rw [← r.len]; exact hn)] at h2
      have q := r.obj n a so' h1 h2
      cases so' with
      | lst ds => obtain ⟨vs, e, q⟩ := q; exact ⟨vs, k _ _ e, Reps.mono r.sub hf _ _ q⟩
      | dct kvs => obtain ⟨vs, e, q⟩ := q; exact ⟨vs, k _ _ e, q.mono r.sub hf⟩
      | lck kvs => obtain ⟨ob, vs, e, q⟩ := q; exact ⟨ob, vs, k _ _ e, q.mono r.sub hf⟩
    · have hn' : n = ρ.length := by
        have := (List.getElem?_eq_some_iff.mp h1).1
        simp at this
        omega
      subst hn'
      rw [List.getElem?_append_right (Nat.le_refl _)] at h1
      rw [r.len, List.getElem?_append_right (Nat.le_refl _)] at h2
      simp at h1 h2
      subst h1; subst h2
      exact ho
/-- a place written -/
theorem fr_write {p : Addr} {o : HO} (hp : p ∈ ρ) (hz : ∃ o', H p = some o') (hn : ∀ o u, H p ≠ some (.frz o u)) : Fr ρ Z H ρ Z (upd H p o) := by
  refine ⟨⟨[], by simp⟩, fun a o' h ha _ => ?_, fun _ _ _ => Iff.rfl, fun a o' h => ?_, fun a o' u h => ?_, fun _ h => .inl h⟩
  · rw [upd_ne (fun (e : a = p) => ha (e ▸ hp))]; exact h
  · by_cases e : a = p
    · subst e; exact ⟨o, upd_same⟩
    · exact ⟨o', by rw [upd_ne e]; exact h⟩
  · rw [upd_ne (fun (e : a = p) => hn o' u (e ▸ h))]; exact h
theorem RelS.write {p : Addr} {o : HO} {so : SO} {n : Nat} (r : RelS K T ρ Z st H) (hn : ρ[n]? = some p) (hf : ∀ o u, H p ≠ some (.frz o u)) (ho : ObjAt K ρ Z (upd H p o) p so) :
    RelS K T ρ Z (st.set n so) (upd H p o) := by
  have hp : p ∈ ρ := List.mem_of_getElem? hn
  have k : ∀ a o', H a = some o' → a ≠ p → upd H p o a = some o' := fun a o' h e => by rw [upd_ne e]; exact h
  have hfr : Fr ρ Z H ρ Z (upd H p o) := fr_write hp (r.dom p (r.sub p hp)) hf
  have hnl : n < ρ.length := (List.getElem?_eq_some_iff.mp hn).1
  refine ⟨by simp [r.len], r.nd, r.sub, fun a h => ?_, fun m a so' h1 h2 => ?_, r.tabs_of fun a o' h ha => k a o' h fun e => ha (e ▸ hp)⟩
  · obtain ⟨o', h'⟩ := r.dom a h
    exact hfr.dom a o' h'
  · by_cases hm : n = m
    · subst hm
      rw [hn] at h1
      cases h1
      rw [List.getElem?_set_self (by rw [← r.len]; exact hnl)] at h2
      cases h2
      exact ho
    · rw [List.getElem?_set_ne hm] at h2
      have hap : a ≠ p := fun e => by
        subst e
        have h3 := (List.getElem?_eq_some_iff.mp h1)
        have h4 := (List.getElem?_eq_some_iff.mp hn)
        exact hm ((List.getElem_inj r.nd).mp (h4.2.trans h3.2.symm))
      have q := r.obj m a so' h1 h2
      cases so' with
      | lst ds => obtain ⟨vs, e, q⟩ := q; exact ⟨vs, k _ _ e hap, Reps.mono r.sub hfr _ _ q⟩
      | dct kvs => obtain ⟨vs, e, q⟩ := q; exact ⟨vs, k _ _ e hap, q.mono r.sub hfr⟩
      | lck kvs => obtain ⟨ob, vs, e, q⟩ := q; exact ⟨ob, vs, k _ _ e hap, q.mono r.sub hfr⟩
/-- what is read at data -/
theorem rep_lst (r : RelS K T ρ Z st H) {d : D} {v : V} {ds : List D} (h : Rep K ρ Z H d v) (e : lstOf st d = some ds) : ∃ a vs, v = .ref a ∧ H a = some (.lst vs) ∧ Reps K ρ Z H ds vs := by
  cases d with
  | lst es =>
    simp only [lstOf] at e; cases e
    simp only [Rep] at h
    obtain ⟨a, vs, rfl, ⟨h1, _⟩, h2⟩ := h
    exact ⟨a, vs, rfl, h1, h2⟩
  | loc n =>
    simp only [lstOf] at e
    simp only [Rep] at h
    obtain ⟨a, rfl, h1⟩ := h
    obtain ⟨so, h2, h3⟩ := r.at h1
    rw [h2] at e
    cases so with
    | lst es => simp at e; subst e; obtain ⟨vs, h4, h5⟩ := h3; exact ⟨a, vs, rfl, h4, h5⟩
    | dct _ => simp at e
    | lck _ => simp at e
  | _ => simp only [lstOf] at e; cases e
theorem rep_seq (r : RelS K T ρ Z st H) {d : D} {v : V} {ds : List D} (h : Rep K ρ Z H d v) (e : seqOf st d = some ds) : ∃ a vs, v = .ref a ∧ (SqL K H a vs ∨ SqT K H a vs) ∧ Reps K ρ Z H ds vs := by
  cases d with
  | tup es =>
    simp only [seqOf] at e; cases e
    simp only [Rep] at h
    obtain ⟨a, vs, rfl, h1, h2⟩ := h
    exact ⟨a, vs, rfl, .inr h1.sq, h2⟩
  | lst es =>
    obtain ⟨a, vs, e1, h1, h2⟩ := rep_lst (st := st) r h (ds := ds) e
    exact ⟨a, vs, e1, .inl (.inl (.inl h1)), h2⟩
  | loc n =>
    obtain ⟨a, vs, e1, h1, h2⟩ := rep_lst (st := st) r h (ds := ds) e
    exact ⟨a, vs, e1, .inl (.inl (.inl h1)), h2⟩
  | _ => simp only [seqOf] at e; cases e
theorem rep_tup {d : List D} {v : V} (h : Rep K ρ Z H (.tup d) v) : ∃ a vs, v = .ref a ∧ SqT K H a vs ∧ Reps K ρ Z H d vs := by
  simp only [Rep] at h
  obtain ⟨a, vs, rfl, h1, h2⟩ := h
  exact ⟨a, vs, rfl, h1.sq, h2⟩
/-- a new tuple -/
theorem rep_newT (r : RelS K T ρ Z st H) {p : Addr} {ds : List D} {vs : List V} (hp : H p = none) (h : Reps K ρ Z H ds vs) : Rep K ρ Z (upd H p (.tup vs)) (.tup ds) (.ref p) := by
  simp only [Rep]
  exact ⟨p, vs, rfl, .inl ⟨upd_same, r.free hp⟩, Reps.mono r.sub (fr_new hp) _ _ h⟩
end
end Q

/-! QOps: operators, comparisons, subscripts by values: the evaluator's answer is the machine's. -/
namespace Q
open PySem PySem.Spec PyProof.Rows L2

/-! ### data as PyData -/
mutual
def D.py : D → PyData
  | .non => .none
  | .bl b => .bool b
  | .int i => .int i
  | .str s => .str s
  | .tup ds => .tuple (D.pyL ds)
  | .lst ds => .list (D.pyL ds)
  | .loc _ => .none
  | .frz _ => .none
def D.pyL : List D → List PyData
  | [] => []
  | d :: ds => D.py d :: D.pyL ds
end
section
variable {K : PySem.W.Frag} {T : List (Addr × Str)} {ρ ρ' : List Addr} {Z Z' : Addr → Prop} {H H' : Hp} {st st' : Store}
mutual
theorem dp_of : ∀ (n : Nat) (d : D) (v : V), Rep K ρ Z H d v → d.ok n = true → Dp K H v d.py ∧ d.py.canLay0 = true ∧ d.py.depth ≤ n
  | n, .non, v, h, _ => by simp only [Rep] at h; subst h; exact ⟨.non, by simp [D.py, PyData.canLay0], by simp [D.py, PyData.depth]⟩
  | n, .bl b, v, h, _ => by simp only [Rep] at h; subst h; exact ⟨.bl b, by simp [D.py, PyData.canLay0], by simp [D.py, PyData.depth]⟩
  | n, .int b, v, h, _ => by simp only [Rep] at h; subst h; exact ⟨.int b, by simp [D.py, PyData.canLay0], by simp [D.py, PyData.depth]⟩
  | n, .str b, v, h, _ => by simp only [Rep] at h; obtain ⟨rfl, h⟩ := h; exact ⟨.str b, by simp [D.py, PyData.canLay0, h], by simp [D.py, PyData.depth]⟩
  | 0, .tup ds, v, h, o => by simp [D.ok] at o
  | 0, .lst ds, v, h, o => by simp [D.ok] at o
  | n + 1, .tup ds, v, h, o => by
    simp only [Rep] at h
    obtain ⟨a, vs, rfl, h1, h2⟩ := h
    obtain ⟨q1, q2, q3⟩ := dp_ofL n ds vs h2 (by simpa [D.ok] using o)
    exact ⟨.tup h1.sq q1, by simpa [D.py, PyData.canLay0] using q2, by simp only [D.py, PyData.depth]; omega⟩
  | n + 1, .lst ds, v, h, o => by
    simp only [Rep] at h
    obtain ⟨a, vs, rfl, h1, h2⟩ := h
    obtain ⟨q1, q2, q3⟩ := dp_ofL n ds vs h2 (by simpa [D.ok] using o)
    exact ⟨.lst (.inl (.inl h1.1)) q1, by simpa [D.py, PyData.canLay0] using q2, by simp only [D.py, PyData.depth]; omega⟩
  | n, .loc _, v, h, o => by simp [D.ok] at o
  | n, .frz _, v, h, o => by simp [D.ok] at o
theorem dp_ofL : ∀ (n : Nat) (ds : List D) (vs : List V), Reps K ρ Z H ds vs → D.okL n ds = true → DpAll K H vs (D.pyL ds) ∧ PyData.canLayAll0 (D.pyL ds) = true ∧ PyData.depthAll (D.pyL ds) ≤ n
  | n, [], vs, h, _ => by simp only [Reps] at h; subst h; exact ⟨.nil, by simp [D.pyL, PyData.canLayAll0], by simp [D.pyL, PyData.depthAll]⟩
  | n, d :: ds, vs, h, o => by
    simp only [Reps] at h
    obtain ⟨v, r, rfl, h1, h2⟩ := h
    simp only [D.okL, Bool.and_eq_true] at o
    obtain ⟨a1, a2, a3⟩ := dp_of n d v h1 o.1
    obtain ⟨b1, b2, b3⟩ := dp_ofL n ds r h2 o.2
    exact ⟨.cons a1 b1, by simp [D.pyL, PyData.canLayAll0, a2, b2], by simp only [D.pyL, PyData.depthAll]; omega⟩
end
mutual
theorem eqv_py : ∀ (n m : Nat) (a b : D), a.ok n = true → b.ok m = true → PyData.eqv a.py b.py = D.eq a b
  | n, m, .non, b, h, k => by cases b <;> simp_all [D.py, PyData.eqv, D.eq, D.ok]
  | n, m, .bl _, b, h, k => by cases b <;> simp_all [D.py, PyData.eqv, D.eq, D.ok]
  | n, m, .int _, b, h, k => by cases b <;> simp_all [D.py, PyData.eqv, D.eq, D.ok]
  | n, m, .str _, b, h, k => by cases b <;> simp_all [D.py, PyData.eqv, D.eq, D.ok]
  | n, m, .loc _, b, h, k => by simp [D.ok] at h
  | n, m, .frz _, b, h, k => by simp [D.ok] at h
  | n, m, .tup x, b, h, k => by
    cases b with
    | tup y =>
      simp only [D.py, PyData.eqv, D.eq]
      cases n with
      | zero => simp [D.ok] at h
      | succ n =>
        cases m with
        | zero => simp [D.ok] at k
        | succ m => exact eqv_pyL n m x y (by simpa [D.ok] using h) (by simpa [D.ok] using k)
    | _ => simp_all [D.py, PyData.eqv, D.eq, D.ok]
  | n, m, .lst x, b, h, k => by
    cases b with
    | lst y =>
      simp only [D.py, PyData.eqv, D.eq]
      cases n with
      | zero => simp [D.ok] at h
      | succ n =>
        cases m with
        | zero => simp [D.ok] at k
        | succ m => exact eqv_pyL n m x y (by simpa [D.ok] using h) (by simpa [D.ok] using k)
    | _ => simp_all [D.py, PyData.eqv, D.eq, D.ok]
theorem eqv_pyL : ∀ (n m : Nat) (a b : List D), D.okL n a = true → D.okL m b = true → PyData.eqvAll (D.pyL a) (D.pyL b) = D.eqL a b
  | n, m, [], b, h, k => by cases b <;> simp [D.pyL, PyData.eqvAll, D.eqL]
  | n, m, x :: xs, b, h, k => by
    cases b with
    | nil => simp [D.pyL, PyData.eqvAll, D.eqL]
    | cons y ys =>
      simp only [D.okL, Bool.and_eq_true] at h k
      simp only [D.pyL, PyData.eqvAll, D.eqL, eqv_py n m x y h.1 k.1, eqv_pyL n m xs ys h.2 k.2]
end
theorem shaped_of {d : PyData} {n : Nat} (h : d.canLay0 = true) (h2 : d.depth ≤ n) (h3 : n ≤ 64) : SeqAt.shaped d = true := by
  unfold SeqAt.shaped
  rw [h, Bool.true_and]
  exact decide_eq_true (by omega)
/-- a value that may be a place, as data -/
theorem dp_top (r : RelS K T ρ Z st H) {d : D} {v : V} {n : Nat} (h : Rep K ρ Z H d v) (o : (pure1 st d).ok n = true) : Dp K H v (pure1 st d).py ∧ (pure1 st d).py.canLay0 = true ∧ (pure1 st d).py.depth ≤ n := by
  cases d with
  | loc m =>
    simp only [Rep] at h
    obtain ⟨a, rfl, h1⟩ := h
    obtain ⟨so, h2, h3⟩ := r.at h1
    simp only [pure1, h2] at o ⊢
    cases so with
    | lst ds =>
      obtain ⟨vs, h4, h5⟩ := h3
      cases n with
      | zero => simp [D.ok] at o
      | succ n =>
        obtain ⟨q1, q2, q3⟩ := dp_ofL n ds vs h5 (by simpa [D.ok] using o)
        exact ⟨.lst (.inl (.inl h4)) q1, by simpa [D.py, PyData.canLay0] using q2, by simp only [D.py, PyData.depth]; omega⟩
    | dct _ => simp [D.ok] at o
    | lck _ => simp [D.ok] at o
  | _ => exact dp_of n _ v h o
theorem deq_ok (r : RelS K T ρ Z st H) {x y : D} {v u : V} {b : Bool} (hx : Rep K ρ Z H x v) (hy : Rep K ρ Z H y u) (h : deq st x y = some b) :
    ∃ d e, Dp K H v d ∧ Dp K H u e ∧ SeqAt.shaped d = true ∧ SeqAt.shaped e = true ∧ PyData.eqv d e = b := by
  unfold deq at h
  split at h
  · rename_i o
    simp only [Bool.and_eq_true] at o
    obtain ⟨a1, a2, a3⟩ := dp_top r hx o.1
    obtain ⟨b1, b2, b3⟩ := dp_top r hy o.2
    refine ⟨_, _, a1, b1, shaped_of a2 a3 (by decide), shaped_of b2 b3 (by decide), ?_⟩
    rw [eqv_py 20 20 _ _ o.1 o.2]
    exact Option.some.inj h
  · cases h

/-! ### binary operators -/
theorem op_fdivB {X : Cx} : OpR X (binaryOp .FloorDiv) (rI (fun _ j => j ≠ 0 ∧ j.natAbs.log2 < 9000) fun i j => .int (i.fdiv j)) := opI fun i j _ _ _ _ _ hc q =>
  floordiv_int hc.1 q (.inl (PyProof.noPylong_of_log2 hc.2))
theorem log2_9000 {n : Nat} (h : n < 2 ^ 1000) : n.log2 < 9000 := Nat.lt_of_lt_of_le (PySem.Flt.log2_lt_of (by decide) h) (by decide)
/-- what the rule of an operator asks, all kinds -/
def rBin (K : PySem.W.Frag) : Operator → R2
  | .Add => fun x y H Q => rI0 (fun i j => .int (i + j)) x y H Q ∨ ((∃ i j, x = .str i ∧ y = .str j ∧ i.length + j.length ≤ sizeLine ∧ Q (.str (i ++ j)) H) ∨ rCatA K x y H Q)
  | .Sub => rI0 fun i j => .int (i - j)
  | .Mult => fun x y H Q => rI CMulW (fun i j => .int (i * j)) x y H Q ∨ rRepT K x y H Q
  | .FloorDiv => rI (fun _ j => j ≠ 0 ∧ j.natAbs.log2 < 9000) fun i j => .int (i.fdiv j)
  | .Mod => rI (fun _ j => j ≠ 0) fun i j => .int (i.fmod j)
  | .Pow => rI CPow fun i j => .int (i ^ j.toNat)
  | _ => fun _ _ _ _ => False
theorem op_bin {X : Cx} (op : Operator) : OpR X (binaryOp op) (rBin X.K op) := by
  cases op
  case Add => exact OpR.or op_add (OpR.or op_add_str op_catA)
  case Sub => exact op_sub
  case Mult => exact OpR.or op_mulW op_repT
  case FloorDiv => exact op_fdivB
  case Mod => exact op_modN
  case Pow => exact op_pow
  all_goals (intro pins s σ H x y v u Q I rx ry h; exact h.elim)
theorem strOk_app {x y : Str} (h : PySem.PyData.strOk x = true) (k : PySem.PyData.strOk y = true) : PySem.PyData.strOk (x ++ y) = true := by
  unfold PySem.PyData.strOk at *
  show (x.cps ++ y.cps).all _ = true
  rw [Array.all_append, h, k]; rfl
theorem bin_ok (r : RelS K T ρ Z st H) {op : Operator} {x y d : D} {v u : V} {Q : VK} (hx : Rep K ρ Z H x v) (hy : Rep K ρ Z H y u) (h : binD op x y st = some (d, st'))
    (k : ∀ H' w, Fr ρ Z H ρ Z H' → RelS K T ρ Z st' H' → Rep K ρ Z H' d w → Q w H') : rBin K op v u H Q := by
  have inn : ∀ (i j : Int), x = .int i → y = .int j → rBin K op v u H Q := by
    intro i j e1 e2
    subst e1 e2
    simp only [Rep] at hx hy
    subst hx hy
    have h' : (binI op i j).map (fun k => (D.int k, st)) = some (d, st') := by simpa [binD] using h
    cases hb : binI op i j with
    | none => rw [hb] at h'; cases h'
    | some z =>
      rw [hb] at h'
      simp only [Option.map_some, Option.some.injEq, Prod.mk.injEq] at h'
      obtain ⟨rfl, rfl⟩ := h'
      have q := k H (.int z) .refl r (by simp [Rep])
      cases op <;> simp only [binI] at hb
      case Add => cases hb; exact .inl ⟨i, j, rfl, rfl, q⟩
      case Sub => cases hb; exact ⟨i, j, rfl, rfl, q⟩
      case Mult =>
        split at hb
        · rename_i c
          cases hb
          exact .inl ⟨i, j, rfl, rfl, wide_mul c.1 c.2 (by decide) (by decide) (by decide), q⟩
        · cases hb
      case FloorDiv =>
        split at hb
        · rename_i c
          cases hb
          exact ⟨i, j, rfl, rfl, ⟨c.1, log2_9000 c.2⟩, q⟩
        · cases hb
      case Mod =>
        split at hb
        · rename_i c
          cases hb
          exact ⟨i, j, rfl, rfl, c, q⟩
        · cases hb
      case Pow =>
        split at hb
        · rename_i c
          cases hb
          exact ⟨i, j, rfl, rfl, c, q⟩
        · cases hb
      all_goals cases hb
  unfold binD at h
  split at h
  · exact inn _ _ rfl rfl
  · rename_i a b
    simp only [Rep] at hx hy
    obtain ⟨rfl, hx⟩ := hx
    obtain ⟨rfl, hy⟩ := hy
    split at h
    · rename_i c
      cases h
      exact .inr (.inl ⟨a, b, rfl, rfl, Nat.le_trans c (by decide), k H _ .refl r (by simp only [Rep]; exact ⟨trivial, strOk_app hx hy⟩)⟩)
    · cases h
  · rename_i xs ys
    have hx0 := hx
    have hy0 := hy
    obtain ⟨a, vs, rfl, h1, h2⟩ := rep_tup hx
    obtain ⟨b, us, rfl, h3, h4⟩ := rep_tup hy
    unfold mkT at h
    split at h
    · rename_i c
      cases h
      refine .inr (.inr ⟨a, b, vs, us, rfl, rfl, h1, h3, ?_, fun e => ?_, fun e e2 => ?_, fun e e2 p hp => ?_⟩)
      · rw [← h2.len, ← h4.len, ← List.length_append]; exact c
      · have : xs = [] := by have q := h2.len; rw [e] at q; exact List.eq_nil_of_length_eq_zero q
        subst this
        exact k H _ .refl r hy0
      · have : ys = [] := by have q := h4.len; rw [e2] at q; exact List.eq_nil_of_length_eq_zero q
        subst this
        exact k H _ .refl r (by rw [List.append_nil]; exact hx0)
      · exact k _ _ (fr_new hp) (r.new hp) (rep_newT r hp (h2.append h4))
    · cases h
  · rename_i xs n
    obtain ⟨a, vs, rfl, h1, h2⟩ := rep_tup hx
    simp only [Rep] at hy
    subst hy
    split at h
    · rename_i c
      unfold mkT at h
      split at h
      · cases h
        refine .inr ⟨a, n, vs, rfl, rfl, h1, fun e => ?_, c.2.1, c.2.2.1, by rw [← h2.len]; exact c.2.2.2, fun p hp => ?_⟩
        · have q := h2.len
          rw [e] at q
          exact c.1 (List.eq_nil_of_length_eq_zero q)
        · refine k _ _ (fr_new hp) (r.new hp) (rep_newT r hp ?_)
          have rep : ∀ m, Reps K ρ Z H (List.replicate m xs).flatten (List.replicate m vs).flatten := by
            intro m
            induction m with
            | zero => exact .nil
            | succ m ih => rw [List.replicate_succ, List.replicate_succ, List.flatten_cons, List.flatten_cons]; exact h2.append ih
          exact rep _
      · cases h
    · cases h
  · cases h

/-! ### comparisons -/
def rCmp (K : PySem.W.Frag) : CmpOp → R2
  | .Eq => rEqD K
  | .NotEq => rNeD K
  | .Lt => rI0 fun i j => .bl (decide (i < j))
  | .LtE => fun x y H Q => rI0 (fun i j => .bl (decide (i ≤ j))) x y H Q ∨ ∃ i j, x = .str i ∧ y = .str j ∧ Q (.bl (!decide (j.cps.toList < i.cps.toList))) H
  | .Gt => rI0 fun i j => .bl (decide (j < i))
  | .GtE => rI0 fun i j => .bl (decide (j ≤ i))
  | _ => fun _ _ _ _ => False
theorem op_cmp {X : Cx} (hu : X.A.units + 64 < cLine) (op : CmpOp) : OpR X (compareOp op) (rCmp X.K op) := by
  cases op
  case Eq => exact op_eqD hu
  case NotEq => exact op_neD hu
  case Lt => exact op_lt
  case LtE => exact OpR.or op_le op_le_str
  case Gt => exact op_gt
  case GtE => exact op_ge
  all_goals (intro pins s σ H x y v u Q I rx ry h; exact h.elim)
theorem cmp_ok (r : RelS K T ρ Z st H) {op : CmpOp} {x y : D} {v u : V} {b : Bool} {Q : VK} (hx : Rep K ρ Z H x v) (hy : Rep K ρ Z H y u) (h : cmpD st op x y = some b) (q : Q (.bl b) H) : rCmp K op v u H Q := by
  unfold cmpD at h
  split at h
  · obtain ⟨d, e, a1, a2, a3, a4, a5⟩ := deq_ok r hx hy h
    exact ⟨d, e, a1, a2, a3, a4, by rw [a5]; exact q⟩
  · cases hd : deq st x y with
    | none => rw [hd] at h; cases h
    | some c =>
      rw [hd] at h
      cases h
      obtain ⟨d, e, a1, a2, a3, a4, a5⟩ := deq_ok r hx hy hd
      exact ⟨d, e, a1, a2, a3, a4, by rw [a5]; exact q⟩
  · simp only [Rep] at hx hy
    subst hx hy
    cases op <;> simp only [cmpI] at h <;> cases h
    · exact ⟨_, _, rfl, rfl, q⟩
    · exact .inl ⟨_, _, rfl, rfl, q⟩
    · exact ⟨_, _, rfl, rfl, q⟩
    · exact ⟨_, _, rfl, rfl, q⟩
  · simp only [Rep] at hx hy
    obtain ⟨rfl, _⟩ := hx
    obtain ⟨rfl, _⟩ := hy
    cases h
    exact .inr ⟨_, _, rfl, rfl, q⟩
  · cases h

/-! ### in -/
def rMem (K : PySem.W.Frag) (neg : Bool) : R2 := fun x y H Q =>
  (∃ (c : Nat) (z : Str), x = .str ⟨#[c]⟩ ∧ y = .str z ∧ Q (.bl (if neg then !decide (c ∈ z.cps.toList) else decide (c ∈ z.cps.toList))) H) ∨ (rIn K neg x y H Q ∨
    ∃ d ds, Dp K H x d ∧ Dp K H y (.list ds) ∧ SeqAt.shaped d = true ∧ SeqAt.shaped (.list ds) = true ∧ Q (.bl (if neg then !(ds.any fun z => PyData.eqv z d) else ds.any fun z => PyData.eqv z d)) H)
theorem op_mem {X : Cx} (hu : X.A.units + 65 < cLine) : OpR X (compareOp .In) (rMem X.K false) := OpR.or op_in_sign (OpR.or op_in_seq (op_inD hu))
theorem op_notMem {X : Cx} (hu : X.A.units + 65 < cLine) : OpR X (compareOp .NotIn) (rMem X.K true) := OpR.or op_notIn_sign (OpR.or op_notIn_seq (op_notInD hu))
theorem flat_rep {d : D} {v : V} (h : Rep K ρ Z H d v) (f : flatD d = true) : flatV v = true := by
  cases d <;> simp only [flatD, Bool.false_eq_true] at f <;> simp only [Rep] at h
  · subst h; rfl
  · subst h; rfl
  · subst h; rfl
  · obtain ⟨rfl, _⟩ := h; rfl
theorem flat_eq {d e : D} {v u : V} (h : Rep K ρ Z H d v) (h2 : Rep K ρ Z H e u) (f : flatD d = true) (f2 : flatD e = true) : eqV v u = D.eq d e := by
  cases d <;> simp only [flatD, Bool.false_eq_true] at f <;> cases e <;> simp only [flatD, Bool.false_eq_true] at f2 <;> simp only [Rep] at h h2 <;> (try obtain ⟨rfl, _⟩ := h) <;> (try obtain ⟨rfl, _⟩ := h2) <;> (try subst h) <;> (try subst h2) <;> simp [eqV, D.eq]
theorem flat_all : ∀ {ds : List D} {vs : List V}, Reps K ρ Z H ds vs → ds.all flatD = true → vs.all flatV = true
  | [], vs, h, _ => by simp only [Reps] at h; subst h; rfl
  | d :: ds, vs, h, f => by
    simp only [Reps] at h
    obtain ⟨v, r, rfl, h1, h2⟩ := h
    simp only [List.all_cons, Bool.and_eq_true] at f ⊢
    exact ⟨flat_rep h1 f.1, flat_all h2 f.2⟩
theorem flat_in {x : D} {v : V} (hx : Rep K ρ Z H x v) (fx : flatD x = true) : ∀ {ds : List D} {vs : List V}, Reps K ρ Z H ds vs → ds.all flatD = true → inV v vs = ds.any fun y => D.eq y x
  | [], vs, h, _ => by simp only [Reps] at h; subst h; rfl
  | d :: ds, vs, h, f => by
    simp only [Reps] at h
    obtain ⟨u, r, rfl, h1, h2⟩ := h
    simp only [List.all_cons, Bool.and_eq_true] at f
    have ih := flat_in hx fx h2 f.2
    unfold inV at ih ⊢
    simp only [List.any_cons, ih, flat_eq h1 hx f.1 fx]
theorem any_py {x : D} (hx : x.ok 20 = true) : ∀ {ds : List D} {n : Nat}, D.okL n ds = true → ((D.pyL ds).any fun z => PyData.eqv z x.py) = ds.any fun y => D.eq y x
  | [], _, _ => rfl
  | d :: ds, n, h => by
    simp only [D.okL, Bool.and_eq_true] at h
    simp only [D.pyL, List.any_cons, any_py hx h.2, eqv_py n 20 d x h.1 hx]
theorem isSign_eq {x : Str} {c : Nat} (h : isSign x = some c) : x = ⟨#[c]⟩ := by
  unfold isSign at h
  split at h
  · rename_i c' e
    cases h
    cases x with
    | mk a =>
      congr 1
      have : a = a.toList.toArray := by simp
      rw [this]
      show (a.toList).toArray = _
      rw [show a.toList = [c] from e]
  · cases h
theorem mem_ok (r : RelS K T ρ Z st H) {neg : Bool} {x y : D} {v u : V} {b : Bool} {Q : VK} (hx : Rep K ρ Z H x v) (hy : Rep K ρ Z H y u) (h : memD st x y = some b) (q : Q (.bl (if neg then !b else b)) H) : rMem K neg v u H Q := by
  have deep : ∀ ds, lstOf st y = some ds → x.ok 20 = true → D.okL 20 ds = true → (ds.any fun y => y.eq x) = b → rMem K neg v u H Q := by
    intro ds hl o1 o2 e
    obtain ⟨a, vs, rfl, h1, h2⟩ := rep_lst r hy hl
    obtain ⟨a1, a2, a3⟩ := dp_of 20 x v hx o1
    obtain ⟨b1, b2, b3⟩ := dp_ofL 20 ds vs h2 o2
    refine .inr (.inr ⟨_, D.pyL ds, a1, .lst (.inl (.inl h1)) b1, shaped_of a2 a3 (by decide), shaped_of (n := 21) (by simpa [PyData.canLay0] using b2) (by simp only [PyData.depth]; omega) (by decide), ?_⟩)
    rw [any_py o1 o2, e]
    exact q
  unfold memD at h
  split at h
  · rename_i z
    split at h
    · rename_i x'
      split at h
      · rename_i c hc
        cases h
        simp only [Rep] at hx hy
        obtain ⟨rfl, _⟩ := hx
        obtain ⟨rfl, _⟩ := hy
        exact .inl ⟨c, z, by rw [isSign_eq hc], rfl, q⟩
      · cases h
    · cases h
  · rename_i ds
    split at h
    · rename_i o
      cases h
      simp only [Bool.and_eq_true] at o
      obtain ⟨a, vs, rfl, h1, h2⟩ := rep_tup hy
      refine .inr (.inl ⟨a, vs, rfl, .inr h1, flat_rep hx o.1, flat_all h2 o.2, ?_⟩)
      rw [flat_in hx o.1 h2 o.2]
      exact q
    · cases h
  · split at h
    · rename_i ds hl
      split at h
      · rename_i o
        cases h
        simp only [Bool.and_eq_true] at o
        exact deep ds hl o.1 o.2 rfl
      · cases h
    · cases h

/-! ### subscripts -/
theorem atI_rep {ds : List D} {vs : List V} {i : Int} {d : D} (h : Reps K ρ Z H ds vs) (e : atI ds i = some d) : ∃ v, atI vs i = some v ∧ Rep K ρ Z H d v := by
  unfold atI at e ⊢
  rw [← h.len]
  cases hj : ixN ds.length i with
  | none => rw [hj] at e; cases e
  | some j =>
    rw [hj] at e
    exact h.get e
theorem strOk_sign {z : Str} {c : Nat} (h : PySem.PyData.strOk z = true) (hc : c ∈ z.cps.toList) : PySem.PyData.strOk ⟨#[c]⟩ = true := by
  unfold PySem.PyData.strOk at h ⊢
  rw [Array.all_eq_true_iff_forall_mem] at h
  simp
  have := h c (by simpa using hc)
  simpa using this
theorem atI_mem {α : Type} {xs : List α} {i : Int} {c : α} (e : atI xs i = some c) : c ∈ xs := by
  obtain ⟨j, _, h, _⟩ := atI_get e
  exact List.mem_of_getElem? h
theorem sub_ok (r : RelS K T ρ Z st H) {x y d : D} {v u : V} {Q : VK} (hx : Rep K ρ Z H x v) (hy : Rep K ρ Z H y u) (h : subD st x y = some d) (k : ∀ w, Rep K ρ Z H d w → Q w H) : rIx K v u H Q := by
  unfold subD at h
  split at h
  · rename_i i
    simp only [Rep] at hy
    subst hy
    split at h
    · rename_i z
      simp only [Rep] at hx
      obtain ⟨rfl, hz⟩ := hx
      split at h
      · rename_i hl
        obtain ⟨c, h1, rfl⟩ := Option.map_eq_some_iff.mp h
        exact .inr (.inr ⟨z, i, c, rfl, rfl, hl, h1, k _ (by simp only [Rep]; exact ⟨trivial, strOk_sign hz (atI_mem h1)⟩)⟩)
      · cases h
    · split at h
      · rename_i ds hs
        obtain ⟨a, vs, rfl, h1, h2⟩ := rep_seq r hx hs
        obtain ⟨w, h3, h4⟩ := atI_rep h2 h
        rcases h1 with h1 | h1
        · exact .inl ⟨a, vs, i, w, rfl, rfl, h1, h3, k w h4⟩
        · exact .inr (.inl ⟨a, vs, i, w, rfl, rfl, h1, h3, k w h4⟩)
      · cases h
  · cases h

/-! ### slices -/
def rSlice (K : PySem.W.Frag) : V → Option Int → Option Int → Hp → VK → Prop := fun x lo hi H Q => rSlS x lo hi H Q ∨ (rSlA K x lo hi H Q ∨ rSlL K x lo hi H Q)
theorem sl_any {X : Cx} : L2.SlR X (rSlice X.K) := SlR.or sl_str (SlR.or sl_tupA sl_list)
theorem cut_reps {ds : List D} {vs : List V} (lo hi : Option Int) (h : Reps K ρ Z H ds vs) : Reps K ρ Z H (cutD ds lo hi) (cutV vs lo hi) := by
  unfold cutD cutV
  rw [← h.len]
  exact (h.drop _).take _
theorem cutS_eq (z : Str) (lo hi : Option Int) : cutS z lo hi = ⟨(cutD z.cps.toList lo hi).toArray⟩ := by
  unfold cutS cutD Str.length
  simp
theorem cut_sub {α : Type} (xs : List α) (lo hi : Option Int) {c : α} (h : c ∈ cutD xs lo hi) : c ∈ xs := List.mem_of_mem_drop (List.mem_of_mem_take h)
theorem cut_all {α : Type} (xs : List α) (lo hi : Option Int) (h : HT.sIx xs.length 0 lo = 0 ∧ HT.sIx xs.length xs.length hi = xs.length) : cutD xs lo hi = xs := by
  unfold cutD
  rw [h.1, h.2, List.drop_zero, Nat.sub_zero, List.take_length]
theorem slice_ok (r : RelS K T ρ Z st H) {x d : D} {v : V} {lo hi : Option Int} {Q : VK} (hx : Rep K ρ Z H x v) (h : sliceD x lo hi st = some (d, st'))
    (k : ∀ H' w, Fr ρ Z H ρ Z H' → RelS K T ρ Z st' H' → Rep K ρ Z H' d w → Q w H') : rSlice K v lo hi H Q := by
  unfold sliceD at h
  split at h
  · rename_i z
    simp only [Rep] at hx
    obtain ⟨rfl, hz⟩ := hx
    split at h
    · rename_i hl
      cases h
      refine .inl ⟨z, rfl, hl, ?_⟩
      rw [cutS_eq]
      refine k H _ .refl r ?_
      simp only [Rep]
      refine ⟨trivial, ?_⟩
      unfold PySem.PyData.strOk at hz ⊢
      rw [Array.all_eq_true_iff_forall_mem] at hz ⊢
      intro c hc
      exact hz c (by have : c ∈ cutD z.cps.toList lo hi := by simpa using hc
                     simpa using cut_sub _ _ _ this)
    · cases h
  · rename_i ds
    cases h
    have hx0 := hx
    obtain ⟨a, vs, rfl, h1, h2⟩ := rep_tup hx
    refine .inr (.inl ⟨a, vs, rfl, h1, fun e => ?_, fun _ p hp => ?_⟩)
    · rw [← h2.len] at e
      rw [cut_all ds lo hi e] at k
      exact k H _ .refl r hx0
    · exact k _ _ (fr_new hp) (r.new hp) (rep_newT r hp (cut_reps lo hi h2))
  · split at h
    · rename_i ds hl
      cases h
      obtain ⟨a, vs, rfl, h1, h2⟩ := rep_lst r hx hl
      refine .inr (.inr ⟨a, vs, rfl, .inl (.inl h1), fun p hp => ?_⟩)
      refine k _ _ (fr_new hp) (r.new hp) ?_
      simp only [Rep]
      exact ⟨p, _, rfl, ⟨upd_same, r.free hp⟩, Reps.mono r.sub (fr_new hp) _ _ (cut_reps lo hi h2)⟩
    · cases h

/-! ### new lists, dicts -/
theorem mkL_ok (r : RelS K T ρ Z st H) {m : Bool} {ds : List D} {vs : List V} {d : D} {p : Addr} {Q : VK} (hp : H p = none) (h : Reps K ρ Z H ds vs) (e : mkL m ds st = some (d, st'))
    (k : ∀ ρ' Z' H' w, Fr ρ Z H ρ' Z' H' → RelS K T ρ' Z' st' H' → Rep K ρ' Z' H' d w → Q w H') : Q (.ref p) (upd H p (.lst vs)) := by
  unfold mkL at e
  split at e
  · cases m with
    | false =>
      cases e
      refine k ρ Z _ _ (fr_new hp) (r.new hp) ?_
      simp only [Rep]
      exact ⟨p, vs, rfl, ⟨upd_same, r.free hp⟩, Reps.mono r.sub (fr_new hp) _ _ h⟩
    | true =>
      cases e
      refine k (ρ ++ [p]) _ _ _ (fr_place hp) (r.place hp ⟨vs, upd_same, Reps.mono r.sub (fr_place hp) _ _ h⟩) ?_
      simp only [Rep]
      exact ⟨p, rfl, by rw [List.getElem?_append_right (by rw [r.len]; exact Nat.le_refl _), r.len]; simp⟩
  · cases e
theorem mkL_le {m : Bool} {ds : List D} {d : D} (e : mkL m ds st = some (d, st')) : ds.length ≤ sizeLine := by
  unfold mkL at e
  split at e
  · assumption
  · cases e
theorem mkD_ok (r : RelS K T ρ Z st H) {kvs : List (Key × D)} {ws : List (Key × V)} {d : D} {p : Addr} {Q : VK} (hp : H p = none) (h : KReps K ρ Z H kvs ws) (e : mkD kvs st = some (d, st'))
    (k : ∀ ρ' Z' H' w, Fr ρ Z H ρ' Z' H' → RelS K T ρ' Z' st' H' → Rep K ρ' Z' H' d w → Q w H') : Q (.ref p) (upd H p (.dK ws)) := by
  unfold mkD at e
  cases e
  refine k (ρ ++ [p]) _ _ _ (fr_place hp) (r.place hp ⟨ws, upd_same, h.mono r.sub (fr_place hp)⟩) ?_
  simp only [Rep]
  exact ⟨p, rfl, by rw [List.getElem?_append_right (by rw [r.len]; exact Nat.le_refl _), r.len]; simp⟩

/-! ### dicts -/
theorem valV_rep : ∀ {kvs : List (Key × D)} {ws : List (Key × V)} {k : Key}, KReps K ρ Z H kvs ws → (∀ d, dget kvs k = some d → ∃ v, valV ws k = some v ∧ Rep K ρ Z H d v) ∧ (dget kvs k = none → valV ws k = none)
  | [], ws, k, h => by
    have e : ws = [] := by have q := congrArg List.length h.1; simp at q; exact List.eq_nil_of_length_eq_zero q.symm
    subst e
    exact ⟨fun d q => by simp [dget] at q, fun _ => rfl⟩
  | (j, x) :: kvs, ws, k, h => by
    cases ws with
    | nil => have q := congrArg List.length h.1; simp at q
    | cons w ws =>
      obtain ⟨h1, h2, hz⟩ := h
      simp only [List.map_cons, List.cons.injEq] at h1
      simp only [List.map_cons, Reps] at h2
      obtain ⟨v, rr, e, h3, h4⟩ := h2
      cases e
      have ih := valV_rep (k := k) (kvs := kvs) (ws := ws) ⟨h1.2, h4, fun z m => hz z (List.mem_cons_of_mem _ m)⟩
      by_cases hk : j = k
      · have hw : w.1 = k := h1.1.symm.trans hk
        have e1 : dget ((j, x) :: kvs) k = some x := by simp [dget, hk]
        rw [e1, valV_pos hw]
        exact ⟨fun d q => ⟨_, rfl, by cases q; exact h3⟩, fun q => by cases q⟩
      · have hw : ¬ w.1 = k := fun e => hk (h1.1.trans e)
        have e1 : dget ((j, x) :: kvs) k = dget kvs k := by simp [dget, hk]
        rw [e1, valV_neg hw]
        exact ih
theorem rep_key {d : D} {k : Key} {v : V} (h : Rep K ρ Z H d v) (e : keyOf d = some k) : v = kV k := by
  cases d <;> simp only [keyOf] at e <;> cases e <;> simp only [Rep] at h
  · subst h; rfl
  · obtain ⟨rfl, _⟩ := h; rfl
theorem rep_dct (r : RelS K T ρ Z st H) {d : D} {v : V} {kvs : List (Key × D)} (h : Rep K ρ Z H d v) (e : dctOf st d = some kvs) : ∃ a ws, v = .ref a ∧ Rd H a (.dK ws) ∧ KReps K ρ Z H kvs ws := by
  cases d <;> simp only [dctOf] at e
  case loc n =>
    simp only [Rep] at h
    obtain ⟨a, rfl, h1⟩ := h
    obtain ⟨so, h2, h3⟩ := r.at h1
    rw [h2] at e
    cases so with
    | lst _ => cases e
    | dct es => cases e; obtain ⟨ws, h4, h5⟩ := h3; exact ⟨a, ws, rfl, .inl h4, h5⟩
    | lck es => cases e; obtain ⟨o, ws, h4, h5⟩ := h3; exact ⟨a, ws, rfl, .inr ⟨o, h4⟩, h5⟩
  all_goals cases e
theorem dget_ok {kvs : List (Key × D)} {ws : List (Key × V)} {a : Addr} {k : Key} {d : D} {v : V} {H : Hp} (h : Rd H a (.dK ws)) (q : KReps K ρ Z H kvs ws) (hv : v = kV k) :
    ∃ o, DGet H a v o ∧ o.isSome = (dget kvs k).isSome ∧ ∀ d, dget kvs k = some d → ∃ w, o = some w ∧ Rep K ρ Z H d w := by
  refine ⟨valV ws k, .inl ⟨ws, k, h, hv, rfl⟩, ?_, fun d e => ?_⟩
  · obtain ⟨h1, h2⟩ := valV_rep (k := k) q
    cases e : dget kvs k with
    | none => rw [h2 e]; rfl
    | some d => obtain ⟨w, h3, _⟩ := h1 d e; rw [h3]; rfl
  · obtain ⟨w, h3, h4⟩ := (valV_rep (k := k) q).1 d e
    exact ⟨w, h3, h4⟩
theorem any_keys : ∀ {kvs : List (Key × D)} {ws : List (Key × V)} (k : Key), kvs.map (·.1) = ws.map (·.1) → (kvs.any fun kv => decide (kv.1 = k)) = ws.any fun kv => decide (kv.1 = k)
  | [], [], _, _ => rfl
  | [], _ :: _, _, h => by simp at h
  | _ :: _, [], _, h => by simp at h
  | p :: kvs, q :: ws, k, h => by
    simp only [List.map_cons, List.cons.injEq] at h
    simp only [List.any_cons, h.1, any_keys k h.2]
theorem KReps.nil : KReps K ρ Z H [] [] := ⟨rfl, .nil, fun _ m => absurd m (by simp)⟩
theorem KReps.cons {p : Key × D} {w : Key × V} {kvs : List (Key × D)} {ws : List (Key × V)} (hk : p.1 = w.1) (hr : Rep K ρ Z H p.2 w.2) (hz : ∀ z, p.1 = .inr z → PySem.PyData.strOk z = true) (t : KReps K ρ Z H kvs ws) : KReps K ρ Z H (p :: kvs) (w :: ws) :=
  ⟨by simp only [List.map_cons, hk, t.1], by simp only [List.map_cons]; exact .cons hr t.2.1, fun z m => by
    rw [List.map_cons] at m
    rcases List.mem_cons.mp m with e | m
    · exact hz z e.symm
    · exact t.2.2 z m⟩
theorem KReps.uncons {p : Key × D} {kvs : List (Key × D)} {ws : List (Key × V)} (h : KReps K ρ Z H (p :: kvs) ws) : ∃ w r, ws = w :: r ∧ p.1 = w.1 ∧ Rep K ρ Z H p.2 w.2 ∧ (∀ z, p.1 = .inr z → PySem.PyData.strOk z = true) ∧ KReps K ρ Z H kvs r := by
  cases ws with
  | nil => have q := congrArg List.length h.1; simp at q
  | cons w ws =>
    obtain ⟨h1, h2, hz⟩ := h
    simp only [List.map_cons, List.cons.injEq] at h1
    simp only [List.map_cons, Reps] at h2
    obtain ⟨u, rr, e, h3, h4⟩ := h2
    cases e
    exact ⟨w, ws, rfl, h1.1, h3, fun z e => hz z (by rw [List.map_cons, e]; exact List.mem_cons_self), h1.2, h4, fun z m => hz z (List.mem_cons_of_mem _ m)⟩
theorem KReps.unnil {ws : List (Key × V)} (h : KReps K ρ Z H [] ws) : ws = [] := by
  have q := congrArg List.length h.1
  simp at q
  exact List.eq_nil_of_length_eq_zero q.symm
theorem KReps.snoc : ∀ {kvs : List (Key × D)} {ws : List (Key × V)} {k : Key} {d : D} {v : V}, KReps K ρ Z H kvs ws → Rep K ρ Z H d v → (∀ z, k = .inr z → PySem.PyData.strOk z = true) → KReps K ρ Z H (kvs ++ [(k, d)]) (ws ++ [(k, v)])
  | [], ws, k, d, v, h, hd, hz => by
    rw [h.unnil]
    exact .cons rfl hd hz .nil
  | p :: kvs, ws, k, d, v, h, hd, hz => by
    obtain ⟨w, r, rfl, a1, a2, a3, a4⟩ := h.uncons
    exact .cons a1 a2 a3 (KReps.snoc a4 hd hz)
theorem put_rep {kvs : List (Key × D)} {ws : List (Key × V)} {k : Key} {d : D} {v : V} (q : KReps K ρ Z H kvs ws) (h : Rep K ρ Z H d v) (hz : ∀ z, k = .inr z → PySem.PyData.strOk z = true) : KReps K ρ Z H (dput kvs k d) (L2.putK ws k v) := by
  have mp : ∀ {kvs : List (Key × D)} {ws : List (Key × V)}, KReps K ρ Z H kvs ws → KReps K ρ Z H (kvs.map fun kv => if kv.1 = k then (kv.1, d) else kv) (ws.map fun kv => if kv.1 = k then (kv.1, v) else kv) := by
    intro kvs
    induction kvs with
    | nil =>
      intro ws h
      rw [h.unnil]
      exact .nil
    | cons p kvs ih =>
      intro ws hh
      obtain ⟨w, r, rfl, a1, a2, a3, a4⟩ := hh.uncons
      have i := ih a4
      simp only [List.map_cons]
      by_cases hk : p.1 = k
      · have hw : w.1 = k := a1.symm.trans hk
        rw [if_pos hk, if_pos hw]
        exact .cons a1 h a3 i
      · have hw : ¬ w.1 = k := fun e => hk (a1.trans e)
        rw [if_neg hk, if_neg hw]
        exact .cons a1 a2 a3 i
  unfold dput L2.putK
  rw [any_keys k q.1]
  split
  · exact mp q
  · exact q.snoc h hz
theorem drop_rep : ∀ {kvs : List (Key × D)} {ws : List (Key × V)} {k : Key}, KReps K ρ Z H kvs ws → KReps K ρ Z H (ddrop kvs k) (dropK ws k)
  | [], ws, k, h => by
    rw [h.unnil]
    exact .nil
  | p :: kvs, ws, k, h => by
    obtain ⟨w, r, rfl, h1, h3, hz, h4⟩ := h.uncons
    have i := drop_rep (k := k) h4
    by_cases hk : p.1 = k
    · have hw : w.1 = k := h1.symm.trans hk
      have e1 : ddrop (p :: kvs) k = ddrop kvs k := by simp [ddrop, hk]
      rw [e1, dropK_pos hw]
      exact i
    · have hw : ¬ w.1 = k := fun e => hk (h1.trans e)
      have e1 : ddrop (p :: kvs) k = p :: ddrop kvs k := by simp [ddrop, hk]
      rw [e1, dropK_neg hw]
      exact .cons h1 h3 hz i
theorem key_str {d : D} {v : V} {k : Key} (h : Rep K ρ Z H d v) (e : keyOf d = some k) : ∀ z, k = .inr z → PySem.PyData.strOk z = true := by
  intro z hz
  subst hz
  cases d <;> simp only [keyOf] at e <;> cases e
  simp only [Rep] at h
  exact h.2
end
end Q

/-! QSnd1: expressions: what a tree gives is what the machine gives (names, operators, comparisons, displays, subscripts). -/
namespace Q
open PySem PySem.Spec PyProof.Rows L2

/-- the slots hold what the evaluator's names hold -/
def RelE (K : PySem.W.Frag) (ρ : List Addr) (Z : Addr → Prop) (H : Hp) (env : Env) (σ : L2.St) : Prop :=
  env.length = σ.length ∧ ∀ (i : Nat) (d : D), env[i]? = some (some d) → ∃ v, σ[i]? = some (some v) ∧ Rep K ρ Z H d v
def tEv (K : PySem.W.Frag) (T : List (Addr × Str)) (C : Ctx) (x : X) : TE := fun σ H Q => ∃ ρ Z st env d st', RelS K T ρ Z st H ∧ RelE K ρ Z H env σ ∧ ev C x env st = some (d, st') ∧
  ∀ ρ' Z' H' v, Fr ρ Z H ρ' Z' H' → RelS K T ρ' Z' st' H' → Rep K ρ' Z' H' d v → Q v H'
def tEvL (K : PySem.W.Frag) (T : List (Addr × Str)) (C : Ctx) (xs : List X) : TA := fun σ H Q => ∃ ρ Z st env ds st', RelS K T ρ Z st H ∧ RelE K ρ Z H env σ ∧ evL C xs env st = some (ds, st') ∧
  ∀ ρ' Z' H' vs, Fr ρ Z H ρ' Z' H' → RelS K T ρ' Z' st' H' → Reps K ρ' Z' H' ds vs → Q vs H'
theorem _root_.L2.PE.imp {X : Cx} {e : Expr} {t t' : TE} (h : PE X e t) (i : ∀ σ H Q, t' σ H Q → t σ H Q) : PE X e t' := ⟨fun pins s σ H Q I hw => h.run pins s σ H Q I (i σ H Q hw)⟩
theorem _root_.L2.PT.imp {X : Cx} {e : Expr} {t t' : TT} (h : PT X e t) (i : ∀ σ H Q, t' σ H Q → t σ H Q) : PT X e t' := ⟨fun pins s σ H Q I hw => h.run pins s σ H Q I (i σ H Q hw)⟩
theorem _root_.L2.PW.imp {X : Cx} {e : Expr} {t t' : TT} (h : PW X e t) (i : ∀ σ H Q, t' σ H Q → t σ H Q) : PW X e t' := ⟨fun wh pins s σ H Q I hw => h.run wh pins s σ H Q I (i σ H Q hw)⟩
theorem _root_.L2.PA.imp {X : Cx} {e : List Expr} {t t' : TA} (h : PA X e t) (i : ∀ σ H Q, t' σ H Q → t σ H Q) : PA X e t' := ⟨fun pos pins s σ H Q I hw => h.run pos pins s σ H Q I (i σ H Q hw)⟩
theorem _root_.L2.PS.imp {X : Cx} {e : Stmt} {t t' : TS} (h : PS X e t) (i : ∀ D σ H, t' D σ H → t D σ H) : PS X e t' := ⟨fun pins s σ H D I hw => h.run pins s σ H D I (i D σ H hw)⟩

section
variable {K : PySem.W.Frag} {T : List (Addr × Str)} {ρ ρ' : List Addr} {Z Z' : Addr → Prop} {H H' : Hp} {st st' st1 st2 : Store} {C : Ctx} {env : Env} {σ : L2.St}
theorem RelE.mono (sub : ∀ a ∈ ρ, Z a) (f : Fr ρ Z H ρ' Z' H') (h : RelE K ρ Z H env σ) : RelE K ρ' Z' H' env σ := ⟨h.1, fun i d e => let ⟨v, e1, r⟩ := h.2 i d e; ⟨v, e1, Rep.mono sub f d v r⟩⟩
theorem RelE.mz (f : Fz ρ Z H ρ' Z' H') (h : RelE K ρ Z H env σ) : RelE K ρ' Z' H' env σ := ⟨h.1, fun i d e => let ⟨v, e1, r⟩ := h.2 i d e; ⟨v, e1, Rep.mz f d v r⟩⟩
theorem RelE.anti (hz : ∀ a, Z' a → Z a) (h : RelE K ρ Z H env σ) : RelE K ρ Z' H env σ := ⟨h.1, fun i d e => let ⟨v, e1, r⟩ := h.2 i d e; ⟨v, e1, Rep.anti hz d v r⟩⟩
theorem RelE.set {i : Nat} {d : D} {v : V} (h : RelE K ρ Z H env σ) (r : Rep K ρ Z H d v) : RelE K ρ Z H (env.set i (some d)) (σ.set i (some v)) := by
  refine ⟨by rw [List.length_set, List.length_set]; exact h.1, fun j d' e => ?_⟩
  rw [List.getElem?_set] at e ⊢
  split
  · rename_i hi
    rw [if_pos hi] at e
    split at e
    · rename_i hl
      rw [if_pos (by rw [← h.1]; exact hl)]
      cases e
      exact ⟨v, rfl, r⟩
    · cases e
  · rename_i hi
    rw [if_neg hi] at e
    exact h.2 j d' e
theorem wipe_rel (h : RelE K ρ Z H env σ) : ∀ vs : List Nat, RelE K ρ Z H (wipeE env vs) (wipe σ vs)
  | [] => h
  | i :: is => by
    have ih := wipe_rel h is
    refine ⟨by show ((wipeE env is).set i none).length = ((wipe σ is).set i none).length; rw [List.length_set, List.length_set]; exact ih.1, fun j d e => ?_⟩
    have e' : ((wipeE env is).set i none)[j]? = some (some d) := e
    show ∃ v, ((wipe σ is).set i none)[j]? = some (some v) ∧ _
    rw [List.getElem?_set] at e' ⊢
    split
    · rename_i hi
      rw [if_pos hi] at e'
      split at e' <;> simp at e'
    · rename_i hi
      rw [if_neg hi] at e'
      exact ih.2 j d e'
/-- one expression, then what follows -/
theorem tEv.go {x : X} {d : D} {Q : VK} (r : RelS K T ρ Z st H) (e : RelE K ρ Z H env σ) (h : ev C x env st = some (d, st1))
    (k : ∀ ρ' Z' H' v, Fr ρ Z H ρ' Z' H' → RelS K T ρ' Z' st1 H' → RelE K ρ' Z' H' env σ → Rep K ρ' Z' H' d v → Q v H') : tEv K T C x σ H Q :=
  ⟨ρ, Z, st, env, d, st1, r, e, h, fun ρ' Z' H' v f r' q => k ρ' Z' H' v f r' (e.mono r.sub f) q⟩
/-- two expressions in a row -/
theorem two {a b : X} {x y : D} {R : V → V → Hp → Prop} (r : RelS K T ρ Z st H) (e : RelE K ρ Z H env σ) (h1 : ev C a env st = some (x, st1)) (h2 : ev C b env st1 = some (y, st2))
    (k : ∀ ρ' Z' H' v u, Fr ρ Z H ρ' Z' H' → RelS K T ρ' Z' st2 H' → RelE K ρ' Z' H' env σ → Rep K ρ' Z' H' x v → Rep K ρ' Z' H' y u → R v u H') :
    tEv K T C a σ H fun v H1 => tEv K T C b σ H1 fun u H2 => R v u H2 :=
  tEv.go r e h1 fun ρ1 Z1 H1 v f1 r1 e1 q1 => tEv.go r1 e1 h2 fun ρ2 Z2 H2 u f2 r2 e2 q2 => k ρ2 Z2 H2 v u (f1.trans f2) r2 e2 (Rep.mono r1.sub f2 x v q1) q2
theorem asB_some {q : R} {b : Bool} (h : asB q = some (b, st1)) : q = some (.bl b, st1) := by
  unfold asB at h
  split at h
  · cases h; rfl
  · cases h
/-- a test, then what follows -/
theorem tst {x : X} {b : Bool} {Q : Bool → Hp → Prop} (r : RelS K T ρ Z st H) (e : RelE K ρ Z H env σ) (h : asB (ev C x env st) = some (b, st1))
    (k : ∀ ρ' Z' H', Fr ρ Z H ρ' Z' H' → RelS K T ρ' Z' st1 H' → RelE K ρ' Z' H' env σ → Q b H') : tB (tEv K T C x) σ H Q :=
  tEv.go r e (asB_some h) fun ρ1 Z1 H1 v f1 r1 e1 q1 => ⟨b, by simpa [Rep] using q1, k ρ1 Z1 H1 f1 r1 e1⟩
end

/-! ### what surrounds a body -/
structure Sig where
  fns : List (Str × Nat)
  cst : List Str
/-- the promise of a def: the evaluator's answer -/
def spC (K : PySem.W.Frag) (T : List (Addr × Str)) (c : List D → Store → R) : Sp := fun vs H Q _ => ∃ ρ Z st ds d st', RelS K T ρ Z st H ∧ Reps K ρ Z H ds vs ∧ c ds st = some (d, st') ∧
  ∀ ρ' Z' H' v, Fr ρ Z H ρ' Z' H' → RelS K T ρ' Z' st' H' → Rep K ρ' Z' H' d v → Q v H'
/-- a def at hand -/
def FnE (X : Cx) (T : List (Addr × Str)) (k : Nat) (C : Ctx) (f : Str) (n : Nat) : Prop :=
  ∃ (a : Addr) (fd : FuncData) (ps : List Str), X.mg f = some (.ref a) ∧ FnOk X.prog X.w X.K X.mg X.base CX0 k a fd ps (spC X.K T (C.call f)) ∧ PySem.W.keepIn X.K (.ref a) = true ∧ L2.Binds X.K fd ps [] ∧ ps.length = n
/-- a constant at hand -/
def CsE (X : Cx) (C : Ctx) (x : Str) : Prop := ∃ d v u, C.cst x = some d ∧ X.mg x = some u ∧ RelV v u ∧ ∀ ρ Z H, Rep X.K ρ Z H d v
def blts : List Str := ["len", "int", "bool", "abs", "max", "min", "all", "any", "tuple", "list", "range", "sorted", "dict", "enumerate", "zip", "isinstance", "set", "str"]
/-- a level: the names by slot, the scope, the names whose cells are the level's own -/
structure Lv where
  N : List Str
  sc : Scope
  fn : Str → Bool
structure Good (g : Sig) (C : Ctx) (T : List (Addr × Str)) (k : Nat) (L : Lv) (X : Cx) : Prop where
  fn : ∀ x, L.fn x = true → X.fn x = true
  hN : X.N = L.N
  nd : L.N.Nodup
  sc : X.env.scope = L.sc
  calm : X.calm = true
  room : Room k X.A
  never : X.xe = fun _ _ => False
  fns : ∀ p ∈ g.fns, FnE X T k C p.1 p.2
  cst : ∀ x ∈ g.cst, CsE X C x
  blt : ∀ x ∈ blts, X.mg x = none
section
variable {g : Sig} {C : Ctx} {T : List (Addr × Str)} {k : Nat} {L : Lv} {X : Cx}
theorem Good.u64 (G : Good g C T k L X) : X.A.units + 64 < cLine := G.room.units
theorem Good.u65 (G : Good g C T k L X) : X.A.units + 65 < cLine := by have := G.room.un; omega
theorem Good.u1 (G : Good g C T k L X) : X.A.units + 1 < cLine := by have := G.room.un; omega
end
def visB (sc : Scope) (x : Str) : Bool := sc.names.lookup x == some .local || sc.names.lookup x == some .cell || sc.names.lookup x == some .free
theorem visB_ok {sc : Scope} {x : Str} (h : visB sc x = true) : Vis sc x := by
  unfold visB at h
  simp only [Bool.or_eq_true, beq_iff_eq] at h
  rcases h with (h | h) | h
  · exact .inl h
  · exact .inr (.inl h)
  · exact .inr (.inr h)
def locB (sc : Scope) (x : Str) : Bool := sc.names.lookup x == some .local || sc.names.lookup x == some .cell
theorem locB_ok {sc : Scope} {x : Str} (h : locB sc x = true) : Loc sc x := by
  unfold locB at h
  simp only [Bool.or_eq_true, beq_iff_eq] at h
  exact h
def glB (sc : Scope) (x : Str) : Bool := sc.names.lookup x == some .globalImplicit && !(x == ("__debug__" : Str)) && !(x == ("__name__" : Str))
theorem glB_ok {g : Sig} {C : Ctx} {T : List (Addr × Str)} {k : Nat} {L : Lv} {X : Cx} {x : Str} (G : Good g C T k L X) (h : glB L.sc x = true) : Gl X x ∧ (x == ("__debug__" : Str)) = false ∧ x ≠ "__name__" := by
  unfold glB at h
  simp only [Bool.and_eq_true, beq_iff_eq, Bool.not_eq_true'] at h
  refine ⟨?_, h.1.2, fun e => ?_⟩
  · show X.env.scope.names.lookup x = _
    rw [G.sc]
    exact h.1.1
  · subst e
    exact absurd h.2 (by decide)
def starX : X → Bool
  | .star _ => true
  | _ => false
def starP : Expr → Bool
  | .Starred _ _ => true
  | _ => false
theorem star_plain {e : Expr} {es : List Expr} {env : PySem.Env} (h : starP e = false) : starEach (e :: es) env = (false, eval e env) :: starEach es env := by
  cases e <;> first | rfl | (simp [starP] at h)
theorem stars_none {es : List Expr} {env : PySem.Env} {pos : Pos} (h : es.all (fun e => !starP e) = true) : (backTo pos (starEach es env)).any (·.1) = false := by
  induction es with
  | nil => rfl
  | cons e es ih =>
    simp only [List.all_cons, Bool.and_eq_true, Bool.not_eq_true'] at h
    rw [star_plain h.1]
    show (false || (backTo pos (starEach es env)).any (·.1)) = false
    rw [ih h.2]; rfl

/-! ### the nodes -/
section
variable {g : Sig} {C : Ctx} {T : List (Addr × Str)} {k : Nat} {L : Lv} {X : Cx} {e l r : Expr} {pos : Pos} {a b c : Q.X}
theorem i_bin {op : Operator} {σ : L2.St} {H : Hp} {Q : VK} (h : tEv X.K T C (.bin op a b) σ H Q) : tOp (rBin X.K op) (tEv X.K T C a) (tEv X.K T C b) σ H Q := by
  obtain ⟨ρ, Z, st, env, d, st', rs, re, h, k⟩ := h
  simp only [ev, Option.bind_eq_some_iff] at h
  obtain ⟨⟨x, st1⟩, h1, ⟨y, st2⟩, h2, h3⟩ := h
  exact two rs re h1 h2 fun ρ' Z' H' v u f r' e' q1 q2 => bin_ok r' q1 q2 h3 fun H2 w f2 r2 q => k _ _ _ _ (f.trans f2) r2 q
theorem s_bin {op : Operator} (ha : PE X l (tEv X.K T C a)) (hb : PE X r (tEv X.K T C b)) : PE X (.BinOp l op r pos) (tEv X.K T C (.bin op a b)) := (pe_op (op_bin op) ha hb).imp fun _ _ _ h => i_bin h
theorem s_cat {m : Bool} (ha : PE X l (tEv X.K T C a)) (hb : PE X r (tEv X.K T C b)) : PE X (.BinOp l .Add r pos) (tEv X.K T C (.cat m a b)) := (pe_op op_cat ha hb).imp fun σ H Q h => by
  obtain ⟨ρ, Z, st, env, d, st', rs, re, h, k⟩ := h
  simp only [ev, Option.bind_eq_some_iff] at h
  obtain ⟨⟨x, st1⟩, h1, ⟨y, st2⟩, h2, xs, h3, ys, h4, h5⟩ := h
  refine two rs re h1 h2 fun ρ' Z' H' v u f r' e' q1 q2 => ?_
  obtain ⟨p, vs, rfl, a1, a2⟩ := rep_lst r' q1 h3
  obtain ⟨q, us, rfl, b1, b2⟩ := rep_lst r' q2 h4
  refine ⟨p, q, vs, us, rfl, rfl, a1, b1, ?_, fun n hn => ?_⟩
  · have := mkL_le h5
    rw [List.length_append] at this
    rw [← a2.len, ← b2.len]; exact this
  · exact mkL_ok r' hn (a2.append b2) h5 fun ρ2 Z2 H2 w f2 r2 q => k _ _ _ _ (f.trans f2) r2 q
theorem s_neg (ha : PE X e (tEv X.K T C a)) : PE X (.UnaryOp .USub e pos) (tEv X.K T C (.neg a)) := (pe_un un_neg ha).imp fun σ H Q h => by
  obtain ⟨ρ, Z, st, env, d, st', rs, re, h, k⟩ := h
  simp only [ev, Option.bind_eq_some_iff] at h
  obtain ⟨⟨x, st1⟩, h1, h2⟩ := h
  refine tEv.go rs re h1 fun ρ' Z' H' v f r' e' q1 => ?_
  cases x <;> simp only at h2 <;> cases h2
  simp only [Rep] at q1
  subst q1
  exact ⟨_, rfl, k _ _ _ _ f r' (by simp [Rep])⟩
theorem i_not {σ : L2.St} {H : Hp} {Q : VK} (h : tEv X.K T C (.not a) σ H Q) : tB (tEv X.K T C a) σ H fun c H1 => Q (.bl (!c)) H1 := by
  obtain ⟨ρ, Z, st, env, d, st', rs, re, h, k⟩ := h
  simp only [ev, Option.map_eq_some_iff] at h
  obtain ⟨⟨b, st1⟩, h1, h2⟩ := h
  cases h2
  exact tst rs re h1 fun ρ' Z' H' f r' e' => k _ _ _ _ f r' (by simp [Rep])
theorem s_not (ha : PE X e (tEv X.K T C a)) : PE X (.UnaryOp .Not e pos) (tEv X.K T C (.not a)) := (pe_not ha).imp fun σ H Q h => i_not h
theorem p_not (ha : PT X e (tB (tEv X.K T C a))) : PT X (.UnaryOp .Not e pos) (tB (tEv X.K T C (.not a))) := (pt_not ha).imp fun σ H Q h => by
  have q : tB (tEv X.K T C a) σ H fun c H1 => ∃ b, V.bl (!c) = .bl b ∧ Q b H1 := i_not h
  obtain ⟨ρ, Z, st, env, d, st', rs, re, h, k⟩ := q
  refine ⟨ρ, Z, st, env, d, st', rs, re, h, fun ρ' Z' H' v f r' q => ?_⟩
  obtain ⟨c, e, b, e2, q⟩ := k ρ' Z' H' v f r' q
  cases e2
  exact ⟨c, e, q⟩
theorem i_cmp {op : CmpOp} {σ : L2.St} {H : Hp} {Q : VK} (h : tEv X.K T C (.cmp op a b) σ H Q) : tOp (rCmp X.K op) (tEv X.K T C a) (tEv X.K T C b) σ H Q := by
  obtain ⟨ρ, Z, st, env, d, st', rs, re, h, k⟩ := h
  simp only [ev, Option.bind_eq_some_iff, Option.map_eq_some_iff] at h
  obtain ⟨⟨x, st1⟩, h1, ⟨y, st2⟩, h2, z, h3, h4⟩ := h
  cases h4
  exact two rs re h1 h2 fun ρ' Z' H' v u f r' e' q1 q2 => cmp_ok r' q1 q2 h3 (k _ _ _ _ f r' (by simp [Rep]))
def isCmp (op : CmpOp) : Bool := op == .Eq || op == .NotEq || op == .Lt || op == .LtE || op == .Gt || op == .GtE
theorem nm {op : CmpOp} (h : isCmp op = true) (r : Expr) : behindInMarks op r = false := nobehind r (fun e => by subst e; simp [isCmp] at h) (fun e => by subst e; simp [isCmp] at h)
theorem s_cmp {op : CmpOp} (G : Good g C T k L X) (ho : isCmp op = true) (ha : PE X l (tEv X.K T C a)) (hb : PE X r (tEv X.K T C b)) : PE X (.Compare l [op] [r] pos) (tEv X.K T C (.cmp op a b)) :=
  (pe_cmpR (op_cmp G.u64 op) ha hb (nm ho r)).imp fun σ H Q h => i_cmp h
theorem p_cmp {op : CmpOp} (G : Good g C T k L X) (ho : isCmp op = true) (ha : PE X l (tEv X.K T C a)) (hb : PE X r (tEv X.K T C b)) : PT X (.Compare l [op] [r] pos) (tB (tEv X.K T C (.cmp op a b))) :=
  (pt_cmpR (op_cmp G.u64 op) ha hb (nm ho r)).imp fun σ H Q h => i_cmp h
theorem i_chain {op op' : CmpOp} {σ : L2.St} {H : Hp} {Q : VK} (h : tEv X.K T C (.chain op op' a b c) σ H Q) : tChain (rCmp X.K op) (rCmp X.K op') (tEv X.K T C a) (tEv X.K T C b) (tEv X.K T C c) σ H Q := by
  obtain ⟨ρ, Z, st, env, d, st', rs, re, h, k⟩ := h
  simp only [ev, Option.bind_eq_some_iff, Option.map_eq_some_iff] at h
  obtain ⟨⟨x, st1⟩, h1, ⟨y, st2⟩, h2, z, h3, h4⟩ := h
  refine two rs re h1 h2 fun ρ' Z' H' v u f r' e' q1 q2 => cmp_ok r' q1 q2 h3 ?_
  refine ⟨z, rfl, ?_⟩
  cases z with
  | true =>
    simp only [if_true, Option.bind_eq_some_iff, Option.map_eq_some_iff] at h4 ⊢
    obtain ⟨⟨w, st3⟩, h5, k2, h6, h7⟩ := h4
    cases h7
    exact tEv.go r' e' h5 fun ρ2 Z2 H2 v2 f2 r2 e2 q3 => cmp_ok r2 (Rep.mono r'.sub f2 _ _ q2) q3 h6 (k _ _ _ _ (f.trans f2) r2 (by simp [Rep]))
  | false =>
    simp only [Bool.false_eq_true, if_false] at h4 ⊢
    cases h4
    exact k _ _ _ _ f r' (by simp [Rep])
variable {e1 e2 e3 : Expr}
theorem nm2 {op op' : CmpOp} (h : isCmp op' = true) : lastMarks [op, op'] [e1, e2] = false := nm h e2
theorem s_chain {op op' : CmpOp} (G : Good g C T k L X) (ho' : isCmp op' = true) (ha : PE X e1 (tEv X.K T C a)) (hb : PE X e2 (tEv X.K T C b)) (hc : PE X e3 (tEv X.K T C c)) :
    PE X (.Compare e1 [op, op'] [e2, e3] pos) (tEv X.K T C (.chain op op' a b c)) := (pe_chain (op_cmp G.u64 op) (op_cmp G.u64 op') ha hb hc (nm2 ho')).imp fun σ H Q h => i_chain h
theorem p_chain {op op' : CmpOp} (G : Good g C T k L X) (ho' : isCmp op' = true) (ha : PE X e1 (tEv X.K T C a)) (hb : PE X e2 (tEv X.K T C b)) (hc : PE X e3 (tEv X.K T C c)) :
    PT X (.Compare e1 [op, op'] [e2, e3] pos) (tB (tEv X.K T C (.chain op op' a b c))) := (pt_chain (op_cmp G.u64 op) (op_cmp G.u64 op') ha hb hc (nm2 ho')).imp fun σ H Q h => i_chain h
theorem non_iff {ρ : List Addr} {Z : Addr → Prop} {H : Hp} {K : PySem.W.Frag} {d : D} {v : V} (h : Rep K ρ Z H d v) : decide (v = .non) = isNon d := by
  cases d <;> simp only [Rep] at h <;> (first | (subst h; simp [isNon]; done) | (obtain ⟨rfl, _⟩ := h; simp [isNon]; done) | (obtain ⟨a, h⟩ := h; simp [h.1, isNon]; done) | (obtain ⟨a, vs, h⟩ := h; simp [h.1, isNon]; done))
theorem i_isN {σ : L2.St} {H : Hp} {Q : VK} (h : tEv X.K T C (.isN a) σ H Q) : tIsN (tEv X.K T C a) σ H Q := by
  obtain ⟨ρ, Z, st, env, d, st', rs, re, h, k⟩ := h
  simp only [ev, Option.map_eq_some_iff] at h
  obtain ⟨⟨x, st1⟩, h1, h2⟩ := h
  cases h2
  refine tEv.go rs re h1 fun ρ' Z' H' v f r' e' q1 => ?_
  rw [non_iff q1]
  exact k _ _ _ _ f r' (by simp [Rep])
theorem i_notN {σ : L2.St} {H : Hp} {Q : VK} (h : tEv X.K T C (.notN a) σ H Q) : tNotN (tEv X.K T C a) σ H Q := by
  obtain ⟨ρ, Z, st, env, d, st', rs, re, h, k⟩ := h
  simp only [ev, Option.map_eq_some_iff] at h
  obtain ⟨⟨x, st1⟩, h1, h2⟩ := h
  cases h2
  refine tEv.go rs re h1 fun ρ' Z' H' v f r' e' q1 => ?_
  rw [non_iff q1]
  exact k _ _ _ _ f r' (by simp [Rep])
theorem s_isN {j : Nat} {p2 : Pos} (ha : PE X e (tEv X.K T C a)) : PE X (.Compare e [.Is] [.Constant .none j p2] pos) (tEv X.K T C (.isN a)) := (pe_cmp (pc_isN ha)).imp fun σ H Q h => i_isN h
theorem p_isN {j : Nat} {p2 : Pos} (ha : PE X e (tEv X.K T C a)) : PT X (.Compare e [.Is] [.Constant .none j p2] pos) (tB (tEv X.K T C (.isN a))) := (pt_cmp (pc_isN ha)).imp fun σ H Q h => i_isN h
theorem s_notN {j : Nat} {p2 : Pos} (ha : PE X e (tEv X.K T C a)) : PE X (.Compare e [.IsNot] [.Constant .none j p2] pos) (tEv X.K T C (.notN a)) := (pe_cmp (pc_notN ha)).imp fun σ H Q h => i_notN h
theorem p_notN {j : Nat} {p2 : Pos} (ha : PE X e (tEv X.K T C a)) : PT X (.Compare e [.IsNot] [.Constant .none j p2] pos) (tB (tEv X.K T C (.notN a))) := (pt_cmp (pc_notN ha)).imp fun σ H Q h => i_notN h
theorem i_isB {t : Bool} {σ : L2.St} {H : Hp} {Q : VK} (h : tEv X.K T C (.isB a t) σ H Q) : tOp rIsB (tEv X.K T C a) (tC (.bl t)) σ H Q := by
  obtain ⟨ρ, Z, st, env, d, st', rs, re, h, k⟩ := h
  simp only [ev, Option.map_eq_some_iff] at h
  obtain ⟨⟨x, st1⟩, h1, h2⟩ := h
  cases h2
  refine tEv.go rs re (asB_some h1) fun ρ' Z' H' v f r' e' q1 => ?_
  simp only [Rep] at q1
  subst q1
  exact ⟨x, t, rfl, rfl, k _ _ _ _ f r' (by simp [Rep])⟩
theorem s_isB {t : Bool} {j : Nat} {p2 : Pos} (ha : PE X e (tEv X.K T C a)) : PE X (.Compare e [.Is] [.Constant (.bool t) j p2] pos) (tEv X.K T C (.isB a t)) := (pe_cmpR op_isBl ha pe_bl (by rfl)).imp fun σ H Q h => i_isB h
theorem p_isB {t : Bool} {j : Nat} {p2 : Pos} (ha : PE X e (tEv X.K T C a)) : PT X (.Compare e [.Is] [.Constant (.bool t) j p2] pos) (tB (tEv X.K T C (.isB a t))) := (pt_cmpR op_isBl ha pe_bl (by rfl)).imp fun σ H Q h => i_isB h
theorem i_mem {σ : L2.St} {H : Hp} {Q : VK} (h : tEv X.K T C (.mem a b) σ H Q) : tOp (rMem X.K false) (tEv X.K T C a) (tEv X.K T C b) σ H Q := by
  obtain ⟨ρ, Z, st, env, d, st', rs, re, h, k⟩ := h
  simp only [ev, Option.bind_eq_some_iff, Option.map_eq_some_iff] at h
  obtain ⟨⟨x, st1⟩, h1, ⟨y, st2⟩, h2, z, h3, h4⟩ := h
  cases h4
  exact two rs re h1 h2 fun ρ' Z' H' v u f r' e' q1 q2 => mem_ok r' q1 q2 h3 (k _ _ _ _ f r' (by simp [Rep]))
theorem i_notIn {σ : L2.St} {H : Hp} {Q : VK} (h : tEv X.K T C (.notIn a b) σ H Q) : tOp (rMem X.K true) (tEv X.K T C a) (tEv X.K T C b) σ H Q := by
  obtain ⟨ρ, Z, st, env, d, st', rs, re, h, k⟩ := h
  simp only [ev, Option.bind_eq_some_iff, Option.map_eq_some_iff] at h
  obtain ⟨⟨x, st1⟩, h1, ⟨y, st2⟩, h2, z, h3, h4⟩ := h
  cases h4
  exact two rs re h1 h2 fun ρ' Z' H' v u f r' e' q1 q2 => mem_ok r' q1 q2 h3 (k _ _ _ _ f r' (by simp [Rep]))
theorem s_mem (G : Good g C T k L X) (hm : behindInMarks .In r = false) (ha : PE X l (tEv X.K T C a)) (hb : PE X r (tEv X.K T C b)) : PE X (.Compare l [.In] [r] pos) (tEv X.K T C (.mem a b)) :=
  (pe_cmpR (op_mem G.u65) ha hb hm).imp fun σ H Q h => i_mem h
theorem p_mem (G : Good g C T k L X) (hm : behindInMarks .In r = false) (ha : PE X l (tEv X.K T C a)) (hb : PE X r (tEv X.K T C b)) : PT X (.Compare l [.In] [r] pos) (tB (tEv X.K T C (.mem a b))) :=
  (pt_cmpR (op_mem G.u65) ha hb hm).imp fun σ H Q h => i_mem h
theorem s_notIn (G : Good g C T k L X) (hm : behindInMarks .NotIn r = false) (ha : PE X l (tEv X.K T C a)) (hb : PE X r (tEv X.K T C b)) : PE X (.Compare l [.NotIn] [r] pos) (tEv X.K T C (.notIn a b)) :=
  (pe_cmpR (op_notMem G.u65) ha hb hm).imp fun σ H Q h => i_notIn h
theorem p_notIn (G : Good g C T k L X) (hm : behindInMarks .NotIn r = false) (ha : PE X l (tEv X.K T C a)) (hb : PE X r (tEv X.K T C b)) : PT X (.Compare l [.NotIn] [r] pos) (tB (tEv X.K T C (.notIn a b))) :=
  (pt_cmpR (op_notMem G.u65) ha hb hm).imp fun σ H Q h => i_notIn h
theorem i_memK {σ : L2.St} {H : Hp} {Q : VK} (h : tEv X.K T C (.memK a b) σ H Q) : tDIn (tEv X.K T C a) (tEv X.K T C b) σ H Q := by
  obtain ⟨ρ, Z, st, env, d, st', rs, re, h, k⟩ := h
  simp only [ev, Option.bind_eq_some_iff, Option.map_eq_some_iff] at h
  obtain ⟨⟨x, st1⟩, h1, ⟨y, st2⟩, h2, kvs, h3, kk, h4, h5⟩ := h
  cases h5
  refine two rs re h1 h2 fun ρ' Z' H' v u f r' e' q1 q2 => ?_
  obtain ⟨p, ws, rfl, a1, a2⟩ := rep_dct r' q2 h3
  obtain ⟨o, b1, b2, _⟩ := dget_ok (d := D.non) (v := v) a1 a2 (rep_key q1 h4)
  exact ⟨p, o, rfl, b1, by rw [b2]; exact k _ _ _ _ f r' (by simp [Rep])⟩
theorem i_notInK {σ : L2.St} {H : Hp} {Q : VK} (h : tEv X.K T C (.notInK a b) σ H Q) : tDNotIn (tEv X.K T C a) (tEv X.K T C b) σ H Q := by
  obtain ⟨ρ, Z, st, env, d, st', rs, re, h, k⟩ := h
  simp only [ev, Option.bind_eq_some_iff, Option.map_eq_some_iff] at h
  obtain ⟨⟨x, st1⟩, h1, ⟨y, st2⟩, h2, kvs, h3, kk, h4, h5⟩ := h
  cases h5
  refine two rs re h1 h2 fun ρ' Z' H' v u f r' e' q1 q2 => ?_
  obtain ⟨p, ws, rfl, a1, a2⟩ := rep_dct r' q2 h3
  obtain ⟨o, b1, b2, _⟩ := dget_ok (d := D.non) (v := v) a1 a2 (rep_key q1 h4)
  exact ⟨p, o, rfl, b1, by rw [b2]; exact k _ _ _ _ f r' (by simp [Rep])⟩
theorem s_memK (G : Good g C T k L X) (hm : behindInMarks .In r = false) (ha : PE X l (tEv X.K T C a)) (hb : PE X r (tEv X.K T C b)) : PE X (.Compare l [.In] [r] pos) (tEv X.K T C (.memK a b)) :=
  (pe_cmp (pc_din G.u1 ha hb) hm).imp fun σ H Q h => i_memK h
theorem p_memK (G : Good g C T k L X) (hm : behindInMarks .In r = false) (ha : PE X l (tEv X.K T C a)) (hb : PE X r (tEv X.K T C b)) : PT X (.Compare l [.In] [r] pos) (tB (tEv X.K T C (.memK a b))) :=
  (pt_cmp (pc_din G.u1 ha hb) hm).imp fun σ H Q h => i_memK h
theorem s_notInK (G : Good g C T k L X) (hm : behindInMarks .NotIn r = false) (ha : PE X l (tEv X.K T C a)) (hb : PE X r (tEv X.K T C b)) : PE X (.Compare l [.NotIn] [r] pos) (tEv X.K T C (.notInK a b)) :=
  (pe_cmp (pc_dnotin G.u1 ha hb) hm).imp fun σ H Q h => i_notInK h
theorem p_notInK (G : Good g C T k L X) (hm : behindInMarks .NotIn r = false) (ha : PE X l (tEv X.K T C a)) (hb : PE X r (tEv X.K T C b)) : PT X (.Compare l [.NotIn] [r] pos) (tB (tEv X.K T C (.notInK a b))) :=
  (pt_cmp (pc_dnotin G.u1 ha hb) hm).imp fun σ H Q h => i_notInK h
theorem s_ite {t : Expr} (hc : PT X t (tB (tEv X.K T C c))) (ha : PE X l (tEv X.K T C a)) (hb : PE X r (tEv X.K T C b)) : PE X (.IfExp t l r pos) (tEv X.K T C (.ite c a b)) := (pe_ifExp hc ha hb).imp fun σ H Q h => by
  obtain ⟨ρ, Z, st, env, d, st', rs, re, h, k⟩ := h
  simp only [ev, Option.bind_eq_some_iff] at h
  obtain ⟨⟨x, st1⟩, h1, h2⟩ := h
  refine tst rs re h1 fun ρ' Z' H' f r' e' => ?_
  cases x with
  | true => exact iteT (tEv.go r' e' h2 fun ρ2 Z2 H2 v f2 r2 e2 q => k _ _ _ _ (f.trans f2) r2 q)
  | false => exact iteF (tEv.go r' e' h2 fun ρ2 Z2 H2 v f2 r2 e2 q => k _ _ _ _ (f.trans f2) r2 q)
theorem s_var {i : Nat} {x : Str} (G : Good g C T k L X) (hN : L.N[i]? = some x) (hv : visB L.sc x = true) (hd : (x == ("__debug__" : Str)) = false) (hcd : (x == ("__classdict__" : Str)) = false) : PE X (.Name x pos) (tEv X.K T C (.var i)) :=
  (pe_var (i := i) (by rw [G.hN]; exact hN) (by rw [G.sc]; exact visB_ok hv) hd hcd).imp fun σ H Q h => by
    obtain ⟨ρ, Z, st, env, d, st', rs, re, h, k⟩ := h
    simp only [ev] at h
    split at h
    · rename_i d' e
      cases h
      obtain ⟨v, e2, q⟩ := re.2 i _ e
      exact ⟨v, e2, k _ _ _ _ .refl rs q⟩
    · cases h
theorem s_glb {x : Str} (G : Good g C T k L X) (hx : x ∈ g.cst) (hg : glB L.sc x = true) : PE X (.Name x pos) (tEv X.K T C (.glb x)) := by
  obtain ⟨d, v, u, h1, h2, h3, h4⟩ := G.cst x hx
  obtain ⟨g1, g2, g3⟩ := glB_ok G hg
  refine (pe_glob g1 h2 h3 g2).imp fun σ H Q h => ?_
  obtain ⟨ρ, Z, st, env, d', st', rs, re, h, k⟩ := h
  simp only [ev, h1, Option.map_some, Option.some.injEq, Prod.mk.injEq] at h
  obtain ⟨rfl, rfl⟩ := h
  exact k _ _ _ _ .refl rs (h4 _ _ _)
theorem s_const {x : Q.X} {d : D} {v : V} {t : TE} (hp : PE X e t) (hv : ∀ env st, ev C x env st = some (d, st)) (ht : ∀ σ H Q, Q v H → t σ H Q) (hr : ∀ ρ Z H, Rep X.K ρ Z H d v) : PE X e (tEv X.K T C x) := hp.imp fun σ H Q h => by
  obtain ⟨ρ, Z, st, env, d', st', rs, re, h, k⟩ := h
  rw [hv] at h
  cases h
  exact ht _ _ _ (k _ _ _ _ .refl rs (hr _ _ _))
theorem s_sub (G : Good g C T k L X) (hs : PlainIx r) (ha : PE X l (tEv X.K T C a)) (hb : PE X r (tEv X.K T C b)) : PE X (.Subscript l r pos) (tEv X.K T C (.sub a b)) := (pe_ix ix_seq ha hb hs).imp fun σ H Q h => by
  obtain ⟨ρ, Z, st, env, d, st', rs, re, h, k⟩ := h
  simp only [ev, Option.bind_eq_some_iff, Option.map_eq_some_iff] at h
  obtain ⟨⟨x, st1⟩, h1, ⟨y, st2⟩, h2, z, h3, h4⟩ := h
  cases h4
  exact two rs re h1 h2 fun ρ' Z' H' v u f r' e' q1 q2 => sub_ok r' q1 q2 h3 fun w q => k _ _ _ _ f r' q
theorem s_subK (G : Good g C T k L X) (hs : NoSl r) (ha : PE X l (tEv X.K T C a)) (hb : PE X r (tEv X.K T C b)) : PE X (.Subscript l r pos) (tEv X.K T C (.subK a b)) := (pe_dget G.u1 ha hb hs).imp fun σ H Q h => by
  obtain ⟨ρ, Z, st, env, d, st', rs, re, h, k⟩ := h
  simp only [ev, Option.bind_eq_some_iff, Option.map_eq_some_iff] at h
  obtain ⟨⟨x, st1⟩, h1, ⟨y, st2⟩, h2, kvs, h3, kk, h4, z, h5, h6⟩ := h
  cases h6
  refine two rs re h1 h2 fun ρ' Z' H' v u f r' e' q1 q2 => ?_
  obtain ⟨p, ws, rfl, a1, a2⟩ := rep_dct r' q1 h3
  obtain ⟨o, b1, b2, b3⟩ := dget_ok (d := D.non) (v := u) a1 a2 (rep_key q2 h4)
  obtain ⟨w, rfl, b4⟩ := b3 _ h5
  exact ⟨p, w, rfl, b1, k _ _ _ _ f r' b4⟩
end
end Q

/-! QSnd2: arguments, displays, and/or, slices, calls of defs and built-ins, methods. -/
namespace Q
open PySem PySem.Spec PyProof.Rows L2

def tRun (K : PySem.W.Frag) (T : List (Addr × Str)) (f : Env → Store → R) : TE := fun σ H Q => ∃ ρ Z st env d st', RelS K T ρ Z st H ∧ RelE K ρ Z H env σ ∧ f env st = some (d, st') ∧
  ∀ ρ' Z' H' v, Fr ρ Z H ρ' Z' H' → RelS K T ρ' Z' st' H' → Rep K ρ' Z' H' d v → Q v H'
inductive All2 (P : Q.X → Expr → Prop) : List Q.X → List Expr → Prop where
  | nil : All2 P [] []
  | cons {x : Q.X} {e : Expr} {xs : List Q.X} {es : List Expr} (h : P x e) (t : All2 P xs es) : All2 P (x :: xs) (e :: es)
def iteX : Q.X → Bool
  | .ite _ _ _ => true
  | _ => false
/-- an element: plain, or with a star -/
def SA (X : Cx) (T : List (Addr × Str)) (C : Ctx) (x : Q.X) (e : Expr) : Prop :=
  (∃ a e' p, x = .star a ∧ e = .Starred e' p ∧ PE X e' (tEv X.K T C a)) ∨ (starX x = false ∧ starP e = false ∧ PE X e (tEv X.K T C x) ∧ (iteX x = false → PT X e (tB (tEv X.K T C x))))
section
variable {g : Sig} {C : Ctx} {T : List (Addr × Str)} {k : Nat} {L : Lv} {X : Cx} {e l r : Expr} {pos : Pos} {a b c : Q.X} {xs : List Q.X} {es : List Expr}
theorem evL_cons {x : Q.X} (h : starX x = false) (xs : List Q.X) (env : Env) (st : Store) : evL C (x :: xs) env st = (ev C x env st).bind fun r => (evL C xs env r.2).map fun q => (r.1 :: q.1, q.2) := by
  cases x <;> first | rfl | (simp [starX] at h)
theorem pa_all (h : All2 (SA X T C) xs es) : PA X es (tEvL X.K T C xs) := by
  induction h with
  | nil =>
    refine pa_nil.imp fun σ H Q h => ?_
    obtain ⟨ρ, Z, st, env, d, st', rs, re, h, k⟩ := h
    simp only [evL] at h
    cases h
    exact k _ _ _ _ .refl rs .nil
  | @cons x e xs es h t ih =>
    rcases h with ⟨a, e', p, rfl, rfl, he⟩ | ⟨h1, h2, he, _⟩
    · refine (StX.pa_star he ih).imp fun σ H Q h => ?_
      obtain ⟨ρ, Z, st, env, d, st', rs, re, h, k⟩ := h
      simp only [evL, Option.bind_eq_some_iff, Option.map_eq_some_iff] at h
      obtain ⟨⟨y, st1⟩, h1, ys, h2, ⟨zs, st2⟩, h3, h4⟩ := h
      cases h4
      refine tEv.go rs re h1 fun ρ' Z' H' v f r' e' q1 => ?_
      obtain ⟨p, vs, rfl, a1, a2⟩ := rep_seq r' q1 h2
      refine ⟨p, vs, rfl, a1.symm, ρ', Z', st1, env, zs, st2, r', e', h3, fun ρ2 Z2 H2 us f2 r2 q2 => ?_⟩
      exact k _ _ _ _ (f.trans f2) r2 ((Reps.mono r'.sub f2 _ _ a2).append q2)
    · refine (pa_cons he ih (star_plain h2)).imp fun σ H Q h => ?_
      obtain ⟨ρ, Z, st, env, d, st', rs, re, h, k⟩ := h
      rw [evL_cons h1] at h
      simp only [Option.bind_eq_some_iff, Option.map_eq_some_iff] at h
      obtain ⟨⟨y, st1⟩, h1, ⟨zs, st2⟩, h3, h4⟩ := h
      cases h4
      refine tEv.go rs re h1 fun ρ' Z' H' v f r' e' q1 => ?_
      exact ⟨ρ', Z', st1, env, zs, st2, r', e', h3, fun ρ2 Z2 H2 us f2 r2 q2 => k _ _ _ _ (f.trans f2) r2 (.cons (Rep.mono r'.sub f2 _ _ q1) q2)⟩
theorem s_tup {j : Nat} (h : All2 (SA X T C) xs es) : PE X (.Tuple es j pos) (tEv X.K T C (.tup xs)) := (pe_tup (pa_all h)).imp fun σ H Q h => by
  obtain ⟨ρ, Z, st, env, d, st', rs, re, h, k⟩ := h
  simp only [ev, Option.bind_eq_some_iff] at h
  obtain ⟨⟨ds, st1⟩, h1, h2⟩ := h
  unfold mkT at h2
  split at h2
  · rename_i hl
    cases h2
    refine ⟨ρ, Z, st, env, ds, _, rs, re, h1, fun ρ' Z' H' vs f r' q => ⟨by rw [← q.len]; exact hl, fun p hp => ?_⟩⟩
    exact k _ _ _ _ (f.trans (fr_new hp)) (r'.new hp) (rep_newT r' hp q)
  · cases h2
theorem s_lst {m : Bool} (h : All2 (SA X T C) xs es) : PE X (.List es pos) (tEv X.K T C (.lst m xs)) := (pe_lst (pa_all h)).imp fun σ H Q h => by
  obtain ⟨ρ, Z, st, env, d, st', rs, re, h, k⟩ := h
  simp only [ev, Option.bind_eq_some_iff] at h
  obtain ⟨⟨ds, st1⟩, h1, h2⟩ := h
  refine ⟨ρ, Z, st, env, ds, st1, rs, re, h1, fun ρ' Z' H' vs f r' q => ⟨by rw [← q.len]; exact mkL_le h2, fun p hp => ?_⟩⟩
  exact mkL_ok r' hp q h2 fun ρ2 Z2 H2 w f2 r2 q2 => k _ _ _ _ (f.trans f2) r2 q2
/-- and, as a value and as a test -/
theorem and_all : ∀ {xs : List Q.X} {es : List Expr}, All2 (SA X T C) xs es → (∀ x ∈ xs, iteX x = false ∧ starX x = false) → xs ≠ [] → PE X (.BoolOp .And es pos) (tRun X.K T (evAnd C xs)) ∧ PW X (.BoolOp .And es pos) (tB (tRun X.K T (evAnd C xs)))
  | _, _, .nil, _, hn => absurd rfl hn
  | [x], _, .cons h .nil, hi, _ => by
    rcases h with ⟨_, _, _, e1, _⟩ | ⟨_, _, he, ht⟩
    · have := (hi x (by simp)).2; rw [e1] at this; simp [starX] at this
    · exact ⟨(pe_one he).imp fun σ H Q h => h, (pw_and1 (ht (hi x (by simp)).1)).imp fun σ H Q h => h⟩
  | x :: y :: xs, _, .cons h (.cons h2 t), hi, _ => by
    obtain ⟨i1, i2⟩ := and_all (.cons h2 t) (fun z hz => hi z (List.mem_cons_of_mem _ hz)) (by simp)
    rcases h with ⟨_, _, _, e1, _⟩ | ⟨_, _, he, ht⟩
    · have := (hi x (by simp)).2; rw [e1] at this; simp [starX] at this
    · have key : ∀ {σ : L2.St} {H : Hp} {Q : VK}, tRun X.K T (evAnd C (x :: y :: xs)) σ H Q → tEv X.K T C x σ H fun v H1 => ∃ c, v = .bl c ∧ if c = true then tRun X.K T (evAnd C (y :: xs)) σ H1 Q else Q (.bl false) H1 := by
        intro σ H Q h
        obtain ⟨ρ, Z, st, env, d, st', rs, re, h, k⟩ := h
        simp only [evAnd, Option.bind_eq_some_iff] at h
        obtain ⟨⟨b, st1⟩, h1, h2⟩ := h
        refine tEv.go rs re (asB_some h1) fun ρ' Z' H' v f r' e' q => ⟨b, by simpa [Rep] using q, ?_⟩
        cases b with
        | true =>
          simp only [if_true] at h2 ⊢
          exact ⟨ρ', Z', st1, env, d, st', r', e', h2, fun ρ2 Z2 H2 v2 f2 r2 q2 => k _ _ _ _ (f.trans f2) r2 q2⟩
        | false =>
          simp only [Bool.false_eq_true, if_false] at h2 ⊢
          cases h2
          exact k _ _ _ _ f r' (by simp [Rep])
      refine ⟨(pe_and he i1).imp fun σ H Q h => key h, (pw_and (ht (hi x (by simp)).1) i2).imp fun σ H Q h => ?_⟩
      have q := key h
      obtain ⟨ρ, Z, st, env, d, st', rs, re, h, k⟩ := q
      refine ⟨ρ, Z, st, env, d, st', rs, re, h, fun ρ' Z' H' v f r' q => ?_⟩
      obtain ⟨c, e, q⟩ := k ρ' Z' H' v f r' q
      refine ⟨c, e, ?_⟩
      cases c with
      | true => exact q
      | false =>
        obtain ⟨b, e2, q⟩ := q
        cases e2
        exact q
theorem or_all : ∀ {xs : List Q.X} {es : List Expr}, All2 (SA X T C) xs es → (∀ x ∈ xs, iteX x = false ∧ starX x = false) → xs ≠ [] → PE X (.BoolOp .Or es pos) (tRun X.K T (evOr C xs)) ∧ PW X (.BoolOp .Or es pos) (tB (tRun X.K T (evOr C xs)))
  | _, _, .nil, _, hn => absurd rfl hn
  | [x], _, .cons h .nil, hi, _ => by
    rcases h with ⟨_, _, _, e1, _⟩ | ⟨_, _, he, ht⟩
    · have := (hi x (by simp)).2; rw [e1] at this; simp [starX] at this
    · exact ⟨(pe_one he).imp fun σ H Q h => h, (pw_or1 (ht (hi x (by simp)).1)).imp fun σ H Q h => h⟩
  | x :: y :: xs, _, .cons h (.cons h2 t), hi, _ => by
    obtain ⟨i1, i2⟩ := or_all (.cons h2 t) (fun z hz => hi z (List.mem_cons_of_mem _ hz)) (by simp)
    rcases h with ⟨_, _, _, e1, _⟩ | ⟨_, _, he, ht⟩
    · have := (hi x (by simp)).2; rw [e1] at this; simp [starX] at this
    · have key : ∀ {σ : L2.St} {H : Hp} {Q : VK}, tRun X.K T (evOr C (x :: y :: xs)) σ H Q → tEv X.K T C x σ H fun v H1 => ∃ c, v = .bl c ∧ if c = true then Q (.bl true) H1 else tRun X.K T (evOr C (y :: xs)) σ H1 Q := by
        intro σ H Q h
        obtain ⟨ρ, Z, st, env, d, st', rs, re, h, k⟩ := h
        simp only [evOr, Option.bind_eq_some_iff] at h
        obtain ⟨⟨b, st1⟩, h1, h2⟩ := h
        refine tEv.go rs re (asB_some h1) fun ρ' Z' H' v f r' e' q => ⟨b, by simpa [Rep] using q, ?_⟩
        cases b with
        | false =>
          simp only [Bool.false_eq_true, if_false] at h2 ⊢
          exact ⟨ρ', Z', st1, env, d, st', r', e', h2, fun ρ2 Z2 H2 v2 f2 r2 q2 => k _ _ _ _ (f.trans f2) r2 q2⟩
        | true =>
          simp only [if_true] at h2 ⊢
          cases h2
          exact k _ _ _ _ f r' (by simp [Rep])
      refine ⟨(pe_or he i1).imp fun σ H Q h => key h, (pw_or (ht (hi x (by simp)).1) i2).imp fun σ H Q h => ?_⟩
      have q := key h
      obtain ⟨ρ, Z, st, env, d, st', rs, re, h, k⟩ := q
      refine ⟨ρ, Z, st, env, d, st', rs, re, h, fun ρ' Z' H' v f r' q => ?_⟩
      obtain ⟨c, e, q⟩ := k ρ' Z' H' v f r' q
      refine ⟨c, e, ?_⟩
      cases c with
      | false => exact q
      | true =>
        obtain ⟨b, e2, q⟩ := q
        cases e2
        exact q
/-! ### slices -/
def tOpt (K : PySem.W.Frag) (T : List (Addr × Str)) (C : Ctx) (x : Q.X) : TO := fun σ H Q => ∃ ρ Z st env o st', RelS K T ρ Z st H ∧ RelE K ρ Z H env σ ∧ asO (noneX x) (ev C x env st) = some (o, st') ∧
  ∀ ρ' Z' H', Fr ρ Z H ρ' Z' H' → RelS K T ρ' Z' st' H' → Q o H'
theorem _root_.L2.PO.imp {X : Cx} {e : Option Expr} {t t' : TO} (h : PO X e t) (i : ∀ σ H Q, t' σ H Q → t σ H Q) : PO X e t' := ⟨fun pins s σ H Q I hw => h.run pins s σ H Q I (i σ H Q hw)⟩
theorem po_no : PO X none (tOpt X.K T C .none_) := po_none.imp fun σ H Q h => by
  obtain ⟨ρ, Z, st, env, d, st', rs, re, h, k⟩ := h
  simp only [ev, asO, noneX, if_true] at h
  cases h
  exact k _ _ _ .refl rs
theorem po_yes (hn : noneX a = false) (ha : PE X e (tEv X.K T C a)) : PO X (some e) (tOpt X.K T C a) := (po_some ha).imp fun σ H Q h => by
  obtain ⟨ρ, Z, st, env, d, st', rs, re, h, k⟩ := h
  rw [hn] at h
  unfold asO at h
  split at h
  · rename_i i st1 h1
    cases h
    refine tEv.go rs re h1 fun ρ' Z' H' v f r' e' q => ?_
    simp only [Rep] at q
    exact ⟨i, q, k _ _ _ f r'⟩
  · cases h
  · cases h
theorem s_slice {lo hi : Option Expr} {p2 : Pos} (ha : PE X e (tEv X.K T C a)) (hb : PO X lo (tOpt X.K T C b)) (hc : PO X hi (tOpt X.K T C c)) : PE X (.Subscript e (.Slice lo hi none p2) pos) (tEv X.K T C (.slice a b c)) :=
  (pe_slice sl_any ha hb hc).imp fun σ H Q h => by
    obtain ⟨ρ, Z, st, env, d, st', rs, re, h, k⟩ := h
    simp only [ev, Option.bind_eq_some_iff] at h
    obtain ⟨⟨x, st1⟩, h1, ⟨lo, st2⟩, h2, ⟨hi, st3⟩, h3, h4⟩ := h
    refine tEv.go rs re h1 fun ρ' Z' H' v f r' e' q => ?_
    refine ⟨ρ', Z', st1, env, lo, st2, r', e', h2, fun ρ2 Z2 H2 f2 r2 => ?_⟩
    refine ⟨ρ2, Z2, st2, env, hi, st3, r2, e'.mono r'.sub f2, h3, fun ρ3 Z3 H3 f3 r3 => ?_⟩
    have f23 := f2.trans f3
    exact slice_ok r3 (Rep.mono r'.sub f23 _ _ q) h4 fun H4 w f4 r4 q4 => k _ _ _ _ ((f.trans f23).trans f4) r4 q4
theorem s_rev {j : Nat} {p1 p2 p3 : Pos} (ha : PE X e (tEv X.K T C a)) : PE X (.Subscript e (.Slice none none (some (.UnaryOp .USub (.Constant (.int 1) j p1) p2)) p3) pos) (tEv X.K T C (.rev a)) := (pe_revL ha).imp fun σ H Q h => by
  obtain ⟨ρ, Z, st, env, d, st', rs, re, h, k⟩ := h
  simp only [ev, Option.bind_eq_some_iff, Option.map_eq_some_iff] at h
  obtain ⟨⟨x, st1⟩, h1, ds, h2, h3⟩ := h
  cases h3
  refine tEv.go rs re h1 fun ρ' Z' H' v f r' e' q => ?_
  obtain ⟨p, vs, rfl, a1, a2⟩ := rep_lst r' q h2
  refine ⟨p, vs, rfl, .inl (.inl a1), fun n hn => ?_⟩
  refine k _ _ _ _ (f.trans (fr_new hn)) (r'.new hn) ?_
  simp only [Rep]
  refine ⟨n, _, rfl, ⟨upd_same, r'.free hn⟩, Reps.mono r'.sub (fr_new hn) _ _ ?_⟩
  obtain ⟨l1, l2⟩ := reps_iff.mp a2
  refine .of_get (by simp [l1]) fun i d v e1 e2 => ?_
  have hi : i < ds.length := by have := (List.getElem?_eq_some_iff.mp e1).1; simpa using this
  rw [List.getElem?_reverse hi] at e1
  rw [List.getElem?_reverse (by rw [← l1]; exact hi), ← l1] at e2
  exact l2 _ d v e1 e2
/-! ### calls -/
theorem sp_call {f : Str} {ds : List D} {vs : List V} {d : D} {ρ : List Addr} {Z : Addr → Prop} {st st' : Store} {H : Hp} {Q : VK} (rs : RelS X.K T ρ Z st H) (q : Reps X.K ρ Z H ds vs) (h : C.call f ds st = some (d, st'))
    (k : ∀ ρ' Z' H' v, Fr ρ Z H ρ' Z' H' → RelS X.K T ρ' Z' st' H' → Rep X.K ρ' Z' H' d v → Q v H') : spC X.K T (C.call f) vs H Q E0 := ⟨ρ, Z, st, ds, d, st', rs, q, h, k⟩
theorem s_call {f : Str} {p : Pos} (G : Good g C T k L X) (hf : (f, xs.length) ∈ g.fns) (hg : glB L.sc f = true) (hs : es.all (fun e => !starP e) = true) (h : All2 (SA X T C) xs es) :
    PE X (.Call (.Name f p) es [] pos) (tEv X.K T C (.call f xs)) := by
  obtain ⟨ad, fd, ps, h1, h2, h3, h4, h5⟩ := G.fns _ hf
  obtain ⟨g1, g2, g3⟩ := glB_ok G hg
  have imp : ∀ (σ : L2.St) (H : Hp) (Q : VK), tEv X.K T C (.call f xs) σ H Q → tCall (spC X.K T (C.call f)) [] E0 (tEvL X.K T C xs) σ H Q := fun σ H Q h => by
    obtain ⟨ρ, Z, st, env, d, st', rs, re, h, k⟩ := h
    simp only [ev, Option.bind_eq_some_iff] at h
    obtain ⟨⟨ds, st1⟩, h1, h2⟩ := h
    refine ⟨ρ, Z, st, env, ds, st1, rs, re, h1, fun ρ' Z' H' vs f1 r' q => ?_⟩
    show spC X.K T (C.call f) (vs ++ []) H' Q E0
    rw [List.append_nil]
    exact sp_call r' q h2 fun ρ2 Z2 H2 v f2 r2 q2 => k _ _ _ _ (f1.trans f2) r2 q2
  cases h with
  | nil =>
    refine (pe_call0 h2 G.room g1 h1 h3 h4 .nil pass0 g2).imp fun σ H Q h => ?_
    have q := imp σ H Q h
    obtain ⟨ρ, Z, st, env, d, st', rs, re, h, k⟩ := q
    simp only [evL] at h
    cases h
    exact k _ _ _ _ .refl rs .nil
  | @cons x e xs es a t =>
    simp only [List.all_cons, Bool.and_eq_true, Bool.not_eq_true'] at hs
    exact (pe_call h2 G.room g1 h1 h3 h4 .nil pass0 (pa_all (.cons a t)) g2 (star_plain hs.1) (stars_none hs.2)).imp imp
/-- a built-in function, a built-in class -/
theorem s_bi {f : Bi} {m : Bool} {p : Pos} {r : List V → Hp → VK → Prop} (G : Good g C T k L X) (hb : (f.name : Str) ∈ blts) (hg : glB L.sc f.name = true) (hs : es.all (fun e => !starP e) = true) (hn : es ≠ []) (h : All2 (SA X T C) xs es)
    (hc : (bootBuiltins f.name = some (.builtin f.name) ∧ CallR X (.builtin f.name) r) ∨ (bootBuiltins f.name = some (.type f.name) ∧ CallR X (.type f.name) r))
    (ok : ∀ {ρ : List Addr} {Z : Addr → Prop} {st st' : Store} {H : Hp} {ds : List D} {d : D} {vs : List V} {Q : VK}, RelS X.K T ρ Z st H → Reps X.K ρ Z H ds vs → biD f m ds st = some (d, st') →
      (∀ ρ' Z' H' v, Fr ρ Z H ρ' Z' H' → RelS X.K T ρ' Z' st' H' → Rep X.K ρ' Z' H' d v → Q v H') → r vs H Q) :
    PE X (.Call (.Name f.name p) es [] pos) (tEv X.K T C (.bi f m xs)) := by
  obtain ⟨g1, g2, g3⟩ := glB_ok G hg
  have imp : ∀ (σ : L2.St) (H : Hp) (Q : VK), tEv X.K T C (.bi f m xs) σ H Q → tCB r (tEvL X.K T C xs) σ H Q := fun σ H Q h => by
    obtain ⟨ρ, Z, st, env, d, st', rs, re, h, k⟩ := h
    simp only [ev, Option.bind_eq_some_iff] at h
    obtain ⟨⟨ds, st1⟩, h1, h2⟩ := h
    exact ⟨ρ, Z, st, env, ds, st1, rs, re, h1, fun ρ' Z' H' vs f r' q => ok r' q h2 fun ρ2 Z2 H2 v f2 r2 q2 => k _ _ _ _ (f.trans f2) r2 q2⟩
  cases h with
  | nil => exact absurd rfl hn
  | @cons x e xs es a t =>
    simp only [List.all_cons, Bool.and_eq_true, Bool.not_eq_true'] at hs
    rcases hc with ⟨hv, hc⟩ | ⟨hv, hc⟩
    · exact (pe_callB hc g1 (G.blt _ hb) hv (pa_all (.cons a t)) g3 g2 (star_plain hs.1) (stars_none hs.2)).imp imp
    · exact (pe_callTy hc g1 (G.blt _ hb) hv (pa_all (.cons a t)) g3 g2 (star_plain hs.1) (stars_none hs.2)).imp imp
end
end Q

/-! QSnd3: the built-ins by values; isinstance; methods. -/
namespace Q
open PySem PySem.Spec PyProof.Rows L2

/-! ### sorted texts -/
theorem str_eq {x y : Str} (h : x.cps.toList = y.cps.toList) : x = y := by
  cases x; cases y
  congr 1
  exact Array.toList_inj.mp h
theorem leS_total (x y : Str) : leS x y = true ∨ leS y x = true := by
  unfold leS
  by_cases h : y.cps.toList < x.cps.toList
  · right
    have : ¬ x.cps.toList < y.cps.toList := List.lt_asymm h
    simp [this]
  · left; simp [h]
theorem leS_anti {x y : Str} (h : leS x y = true) (k : leS y x = true) : x = y := by
  unfold leS at h k
  simp only [Bool.not_eq_true', decide_eq_false_iff_not] at h k
  exact str_eq (List.le_antisymm h k)
theorem leS_trans {x y z : Str} (h : leS x y = true) (k : leS y z = true) : leS x z = true := by
  unfold leS at h k ⊢
  simp only [Bool.not_eq_true', decide_eq_false_iff_not] at h k ⊢
  exact List.le_trans (α := Nat) h k
theorem insS_perm (x : Str) : ∀ l : List Str, (insS x l).Perm (x :: l)
  | [] => .refl _
  | y :: l => by
    unfold insS
    split
    · exact .refl _
    · exact ((insS_perm x l).cons y).trans (.swap x y l)
theorem sortS_perm : ∀ l : List Str, (sortS l).Perm l
  | [] => .refl _
  | x :: l => (insS_perm x _).trans ((sortS_perm l).cons x)
theorem insS_sorted (x : Str) : ∀ l : List Str, l.Pairwise (fun a b => leS a b = true) → (insS x l).Pairwise (fun a b => leS a b = true)
  | [], _ => by simp [insS]
  | y :: l, h => by
    unfold insS
    rw [List.pairwise_cons] at h
    split
    · rename_i hxy
      rw [List.pairwise_cons]
      refine ⟨fun z hz => ?_, by rw [List.pairwise_cons]; exact h⟩
      rcases List.mem_cons.mp hz with rfl | hz
      · exact hxy
      · exact leS_trans hxy (h.1 z hz)
    · rename_i hxy
      have hyx : leS y x = true := by
        rcases leS_total x y with q | q
        · exact absurd q hxy
        · exact q
      rw [List.pairwise_cons]
      refine ⟨fun z hz => ?_, insS_sorted x l h.2⟩
      rcases List.mem_cons.mp ((insS_perm x l).mem_iff.mp hz) with rfl | hz
      · exact hyx
      · exact h.1 z hz
theorem sortS_sorted : ∀ l : List Str, (sortS l).Pairwise (fun a b => leS a b = true)
  | [] => .nil
  | x :: l => insS_sorted x _ (sortS_sorted l)
theorem sorted_uniq : ∀ {a b : List Str}, a.Perm b → a.Pairwise (fun a b => leS a b = true) → b.Pairwise (fun a b => leS a b = true) → a = b
  | [], b, p, _, _ => (List.nil_perm.mp p).symm
  | x :: a, [], p, _, _ => by have := p.length_eq; simp at this
  | x :: a, y :: b, p, ha, hb => by
    rw [List.pairwise_cons] at ha hb
    have e : x = y := by
      rcases List.mem_cons.mp (p.mem_iff.mp (List.mem_cons_self (a := x))) with e | hx
      · exact e
      · rcases List.mem_cons.mp (p.mem_iff.mpr (List.mem_cons_self (a := y))) with e | hy
        · exact e.symm
        · exact leS_anti (ha.1 y hy) (hb.1 x hx)
    subst e
    rw [sorted_uniq (List.Perm.cons_inv p) ha.2 hb.2]
theorem risingS_ok : ∀ {r : List Str} {p : Str}, risingS p r = true → (p :: r).Pairwise (fun a b => leS a b = true)
  | [], p, _ => by simp
  | x :: r, p, h => by
    simp only [risingS, Bool.and_eq_true] at h
    have ih := risingS_ok h.2
    rw [List.pairwise_cons]
    refine ⟨fun z hz => ?_, ih⟩
    have hpx : leS p x = true := by
      have q := h.1
      simp only [Bool.not_eq_true'] at q
      unfold leS; rw [le_meets, q]; rfl
    rcases List.mem_cons.mp hz with rfl | hz
    · exact hpx
    · exact leS_trans hpx ((List.pairwise_cons.mp ih).1 z hz)
theorem sortedS_ok {l : List Str} (h : sortedS l = true) : l.Pairwise (fun a b => leS a b = true) := by
  cases l with
  | nil => exact .nil
  | cons x r => exact risingS_ok h
theorem sort_is {ys xs : List Str} (p : ys.Perm xs) (s : sortedS ys = true) : ys = sortS xs := sorted_uniq (p.trans (sortS_perm xs).symm) (sortedS_ok s) (sortS_sorted xs)
theorem maxI_is : ∀ {ns : List Int} {m : Int}, m ∈ ns → (∀ y ∈ ns, y ≤ m) → m = maxI ns
  | [x], m, h, _ => by simp at h; rw [h]; rfl
  | x :: y :: ns, m, h, k => by
    show m = max x (maxI (y :: ns))
    have mem : ∀ (l : List Int), l ≠ [] → maxI l ∈ l ∧ ∀ z ∈ l, z ≤ maxI l := by
      intro l
      induction l with
      | nil => intro h; exact absurd rfl h
      | cons a l ih =>
        intro _
        cases l with
        | nil => simp [maxI]
        | cons b l =>
          obtain ⟨i1, i2⟩ := ih (by simp)
          show max a (maxI (b :: l)) ∈ _ ∧ ∀ z ∈ _, z ≤ max a (maxI (b :: l))
          refine ⟨?_, fun z hz => ?_⟩
          · rcases Int.le_total a (maxI (b :: l)) with q | q
            · rw [Int.max_eq_right q]; exact List.mem_cons_of_mem _ i1
            · rw [Int.max_eq_left q]; exact List.mem_cons_self
          · rcases List.mem_cons.mp hz with rfl | hz
            · omega
            · have := i2 z hz; omega
    obtain ⟨a1, a2⟩ := mem (x :: y :: ns) (by simp)
    have b1 := k _ a1
    have b2 := a2 m h
    show m = maxI (x :: y :: ns)
    omega
theorem minI_is : ∀ {ns : List Int} {m : Int}, m ∈ ns → (∀ y ∈ ns, m ≤ y) → m = minI ns
  | [x], m, h, _ => by simp at h; rw [h]; rfl
  | x :: y :: ns, m, h, k => by
    have mem : ∀ (l : List Int), l ≠ [] → minI l ∈ l ∧ ∀ z ∈ l, minI l ≤ z := by
      intro l
      induction l with
      | nil => intro h; exact absurd rfl h
      | cons a l ih =>
        intro _
        cases l with
        | nil => simp [minI]
        | cons b l =>
          obtain ⟨i1, i2⟩ := ih (by simp)
          show min a (minI (b :: l)) ∈ _ ∧ ∀ z ∈ _, min a (minI (b :: l)) ≤ z
          refine ⟨?_, fun z hz => ?_⟩
          · rcases Int.le_total a (minI (b :: l)) with q | q
            · rw [Int.min_eq_left q]; exact List.mem_cons_self
            · rw [Int.min_eq_right q]; exact List.mem_cons_of_mem _ i1
          · rcases List.mem_cons.mp hz with rfl | hz
            · omega
            · have := i2 z hz; omega
    obtain ⟨a1, a2⟩ := mem (x :: y :: ns) (by simp)
    have b1 := k _ a1
    have b2 := a2 m h
    omega

section
variable {g : Sig} {C : Ctx} {T : List (Addr × Str)} {kk : Nat} {L : Lv} {X : Cx}
variable {ρ : List Addr} {Z : Addr → Prop} {st st' : Store} {H : Hp} {ds : List D} {d : D} {vs : List V} {Q : VK} {m : Bool} {xs : List _root_.Q.X} {es : List Expr} {pos p : Pos}
theorem reps1 {K : PySem.W.Frag} {d : D} {vs : List V} (h : Reps K ρ Z H [d] vs) : ∃ v, vs = [v] ∧ Rep K ρ Z H d v := by
  simp only [Reps] at h
  obtain ⟨v, r, rfl, h, rfl⟩ := h
  exact ⟨v, rfl, h⟩
theorem reps2 {K : PySem.W.Frag} {d e : D} {vs : List V} (h : Reps K ρ Z H [d, e] vs) : ∃ v u, vs = [v, u] ∧ Rep K ρ Z H d v ∧ Rep K ρ Z H e u := by
  simp only [Reps] at h
  obtain ⟨v, r, rfl, h, u, r2, rfl, h2, rfl⟩ := h
  exact ⟨v, u, rfl, h, h2⟩
def BiOk (X : Cx) (T : List (Addr × Str)) (f : Bi) (m : Bool) (r : List V → Hp → VK → Prop) : Prop :=
  ∀ {ρ : List Addr} {Z : Addr → Prop} {st st' : Store} {H : Hp} {ds : List D} {d : D} {vs : List V} {Q : VK}, RelS X.K T ρ Z st H → Reps X.K ρ Z H ds vs → biD f m ds st = some (d, st') →
      (∀ ρ' Z' H' v, Fr ρ Z H ρ' Z' H' → RelS X.K T ρ' Z' st' H' → Rep X.K ρ' Z' H' d v → Q v H') → r vs H Q
theorem one_of {f : Bi} (hf : ∀ (m : Bool) (a b : D) (l : List D) (st : Store), biD f m (a :: b :: l) st = none) (h0 : ∀ (m : Bool) (st : Store), biD f m [] st = none) (h : biD f m ds st = some (d, st')) : ∃ x, ds = [x] := by
  rcases ds with _ | ⟨x, _ | ⟨y, l⟩⟩
  · rw [h0] at h; cases h
  · exact ⟨x, rfl⟩
  · rw [hf] at h; cases h
theorem bi_len : BiOk X T .len m (fun xs H Q => (∃ z, xs = [.str z] ∧ z.length ≤ sizeLine ∧ Q (.int z.length) H) ∨ ∃ p ys, xs = [.ref p] ∧ (SqL X.K H p ys ∨ SqT X.K H p ys) ∧ Q (.int ys.length) H) := by
  intro ρ Z st st' H ds d vs Q rs q h k
  obtain ⟨x, rfl⟩ := one_of (fun _ _ _ _ _ => rfl) (fun _ _ => rfl) h
  have h : (lenD st x).map (fun n => (D.int n, st)) = some (d, st') := h
  obtain ⟨n, h1, h2⟩ := Option.map_eq_some_iff.mp h
  cases h2
  obtain ⟨v, rfl, hv⟩ := reps1 q
  unfold lenD at h1
  split at h1
  · rename_i z
    split at h1
    · rename_i hl
      cases h1
      simp only [Rep] at hv
      obtain ⟨rfl, _⟩ := hv
      exact .inl ⟨_, rfl, hl, k _ _ _ _ .refl rs (by simp [Rep])⟩
    · cases h1
  · obtain ⟨ys, h3, h4⟩ := Option.map_eq_some_iff.mp h1
    obtain ⟨a, us, rfl, a1, a2⟩ := rep_seq rs hv h3
    refine .inr ⟨a, us, rfl, a1, k _ _ _ _ .refl rs ?_⟩
    simp only [Rep]
    rw [← a2.len, h4]
theorem bi_int : BiOk X T .int m (fun xs H Q => ((∃ i, xs = [.int i] ∧ Q (.int i) H) ∨ ∃ k, xs = [.bl k] ∧ Q (.int (if k then 1 else 0)) H) ∨ ∃ a n, xs = [.str a] ∧ PySem.intText? a = some n ∧ a.length ≤ 640 ∧ Q (.int n) H) := by
  intro ρ Z st st' H ds d vs Q rs q h k
  obtain ⟨x, rfl⟩ := one_of (fun _ _ _ _ _ => rfl) (fun _ _ => rfl) h
  have h : (intD x).map (fun n => (D.int n, st)) = some (d, st') := h
  obtain ⟨n, h1, h2⟩ := Option.map_eq_some_iff.mp h
  cases h2
  obtain ⟨v, rfl, hv⟩ := reps1 q
  cases x <;> simp only [intD] at h1 <;> simp only [Rep] at hv
  case bl b => cases h1; subst hv; exact .inl (.inr ⟨_, rfl, k _ _ _ _ .refl rs (by simp [Rep])⟩)
  case int b => cases h1; subst hv; exact .inl (.inl ⟨_, rfl, k _ _ _ _ .refl rs (by simp [Rep])⟩)
  case str z =>
    obtain ⟨rfl, _⟩ := hv
    split at h1
    · rename_i hl
      exact .inr ⟨_, n, rfl, h1, hl, k _ _ _ _ .refl rs (by simp [Rep])⟩
    · cases h1
  all_goals cases h1
theorem bi_bool : BiOk X T .bool m (fun xs H Q => (∃ i, xs = [.int i] ∧ Q (.bl (i != 0)) H) ∨ ∃ k, xs = [.bl k] ∧ Q (.bl k) H) := by
  intro ρ Z st st' H ds d vs Q rs q h k
  obtain ⟨x, rfl⟩ := one_of (fun _ a b l st => by cases a <;> rfl) (fun _ _ => rfl) h
  obtain ⟨v, rfl, hv⟩ := reps1 q
  cases x <;> simp only [biD] at h <;> cases h
  simp only [Rep] at hv
  subst hv
  exact .inr ⟨_, rfl, k _ _ _ _ .refl rs (by simp [Rep])⟩
theorem bi_abs : BiOk X T .abs m (fun xs H Q => ∃ i, xs = [.int i] ∧ Q (.int (if i < 0 then -i else i)) H) := by
  intro ρ Z st st' H ds d vs Q rs q h k
  obtain ⟨x, rfl⟩ := one_of (fun _ a b l st => by cases a <;> rfl) (fun _ _ => rfl) h
  obtain ⟨v, rfl, hv⟩ := reps1 q
  cases x <;> simp only [biD] at h <;> cases h
  simp only [Rep] at hv
  subst hv
  exact ⟨_, rfl, k _ _ _ _ .refl rs (by simp [Rep])⟩
theorem two_of {f : Bi} {e : List Int → Int} {c : Int → Int → Int} (hb : ∀ (m : Bool) (st : Store) (a : D), biD f m [a] st = (extD e st a).map fun n => (D.int n, st)) (h2 : ∀ (m : Bool) (st : Store) (i j : Int), biD f m [.int i, .int j] st = some (.int (c i j), st))
    (h0 : ∀ (m : Bool) (st : Store), biD f m [] st = none) (h3 : ∀ (m : Bool) (a b x : D) (l : List D) (st : Store), biD f m (a :: b :: x :: l) st = none)
    (hn : ∀ (m : Bool) (a b : D) (st : Store), (∀ i j, a = .int i → b ≠ .int j) → biD f m [a, b] st = none) (h : biD f m ds st = some (d, st')) :
    (∃ x n, ds = [x] ∧ extD e st x = some n ∧ d = .int n ∧ st' = st) ∨ ∃ i j, ds = [.int i, .int j] ∧ d = .int (c i j) ∧ st' = st := by
  rcases ds with _ | ⟨x, _ | ⟨y, _ | ⟨z, l⟩⟩⟩
  · rw [h0] at h; cases h
  · rw [hb] at h
    obtain ⟨n, h4, h5⟩ := Option.map_eq_some_iff.mp h
    cases h5
    exact .inl ⟨x, n, rfl, h4, rfl, rfl⟩
  · by_cases q : ∃ i j, x = .int i ∧ y = .int j
    · obtain ⟨i, j, rfl, rfl⟩ := q
      rw [h2] at h
      cases h
      exact .inr ⟨i, j, rfl, rfl, rfl⟩
    · rw [hn _ _ _ _ (fun i j e1 e2 => q ⟨i, j, e1, e2⟩)] at h; cases h
  · rw [h3] at h; cases h
theorem ext_ok {e : List Int → Int} {x : D} {n : Int} {v : V} (rs : RelS X.K T ρ Z st H) (hv : Rep X.K ρ Z H x v) (h : extD e st x = some n) : ∃ a ns, v = .ref a ∧ SqL X.K H a (ns.map V.int) ∧ 0 < ns.length ∧ n = e ns := by
  unfold extD at h
  simp only [Option.bind_eq_some_iff] at h
  obtain ⟨ys, h1, ns, h2, h3⟩ := h
  split at h3
  · cases h3
  · rename_i hne
    cases h3
    obtain ⟨a, us, rfl, a1, a2⟩ := rep_lst rs hv h1
    rw [a2.eq_ints h2] at a1
    exact ⟨a, ns, rfl, .inl (.inl a1), List.length_pos_iff.mpr hne, rfl⟩
theorem bi_max : BiOk X T .max m (fun xs H Q => (∃ i j, xs = [.int i, .int j] ∧ Q (.int (if j > i then j else i)) H) ∨ rMax X.K xs H Q) := by
  intro ρ Z st st' H ds d vs Q rs q h k
  rcases two_of (c := fun i j => if j > i then j else i) (fun m st a => by cases a <;> rfl) (fun _ _ _ _ => rfl) (fun _ _ => rfl) (fun _ a b _ _ _ => by cases a <;> cases b <;> rfl)
    (fun _ a b _ hh => by cases a <;> cases b <;> first | rfl | exact absurd rfl (hh _ _ rfl)) h with ⟨x, n, rfl, h1, rfl, rfl⟩ | ⟨i, j, rfl, rfl, rfl⟩
  · obtain ⟨v, rfl, hv⟩ := reps1 q
    obtain ⟨a, ns, rfl, a1, a2, rfl⟩ := ext_ok rs hv h1
    refine .inr ⟨a, ns, rfl, a1, a2, fun m hm hl => ?_⟩
    rw [maxI_is hm hl]
    exact k _ _ _ _ .refl rs (by simp [Rep])
  · obtain ⟨v, u, rfl, hv, hu⟩ := reps2 q
    simp only [Rep] at hv hu
    subst hv hu
    exact .inl ⟨i, j, rfl, k _ _ _ _ .refl rs (by simp [Rep])⟩
theorem bi_min : BiOk X T .min m (fun xs H Q => (∃ i j, xs = [.int i, .int j] ∧ Q (.int (if j < i then j else i)) H) ∨ rMin X.K xs H Q) := by
  intro ρ Z st st' H ds d vs Q rs q h k
  rcases two_of (c := fun i j => if j < i then j else i) (fun m st a => by cases a <;> rfl) (fun _ _ _ _ => rfl) (fun _ _ => rfl) (fun _ a b _ _ _ => by cases a <;> cases b <;> rfl)
    (fun _ a b _ hh => by cases a <;> cases b <;> first | rfl | exact absurd rfl (hh _ _ rfl)) h with ⟨x, n, rfl, h1, rfl, rfl⟩ | ⟨i, j, rfl, rfl, rfl⟩
  · obtain ⟨v, rfl, hv⟩ := reps1 q
    obtain ⟨a, ns, rfl, a1, a2, rfl⟩ := ext_ok rs hv h1
    refine .inr ⟨a, ns, rfl, a1, a2, fun m hm hl => ?_⟩
    rw [minI_is hm hl]
    exact k _ _ _ _ .refl rs (by simp [Rep])
  · obtain ⟨v, u, rfl, hv, hu⟩ := reps2 q
    simp only [Rep] at hv hu
    subst hv hu
    exact .inl ⟨i, j, rfl, k _ _ _ _ .refl rs (by simp [Rep])⟩
theorem bi_all : BiOk X T .all m (rAll X.K) := by
  intro ρ Z st st' H ds d vs Q rs q h k
  obtain ⟨x, rfl⟩ := one_of (fun _ a b l st => rfl) (fun _ _ => rfl) h
  obtain ⟨v, rfl, hv⟩ := reps1 q
  simp only [biD, Option.bind_eq_some_iff, Option.map_eq_some_iff] at h
  obtain ⟨ys, h1, bs, h2, h3⟩ := h
  cases h3
  obtain ⟨a, us, rfl, a1, a2⟩ := rep_lst rs hv h1
  rw [a2.eq_bls h2] at a1
  exact ⟨a, bs, rfl, .inl (.inl a1), k _ _ _ _ .refl rs (by simp [Rep])⟩
theorem bi_any : BiOk X T .any m (rAny X.K) := by
  intro ρ Z st st' H ds d vs Q rs q h k
  obtain ⟨x, rfl⟩ := one_of (fun _ a b l st => rfl) (fun _ _ => rfl) h
  obtain ⟨v, rfl, hv⟩ := reps1 q
  simp only [biD, Option.bind_eq_some_iff, Option.map_eq_some_iff] at h
  obtain ⟨ys, h1, bs, h2, h3⟩ := h
  cases h3
  obtain ⟨a, us, rfl, a1, a2⟩ := rep_lst rs hv h1
  rw [a2.eq_bls h2] at a1
  exact ⟨a, bs, rfl, .inl (.inl a1), k _ _ _ _ .refl rs (by simp [Rep])⟩
theorem seq_lst (rs : RelS X.K T ρ Z st H) {x : D} {v : V} (hv : Rep X.K ρ Z H x v) {ys : List D} (h : seqOf st x = some ys) : ∃ a us, v = .ref a ∧ ((SqL X.K H a us ∧ ∀ zs, x ≠ .tup zs) ∨ (SqT X.K H a us ∧ x = .tup ys)) ∧ Reps X.K ρ Z H ys us := by
  cases x
  case tup zs =>
    simp only [seqOf] at h
    cases h
    obtain ⟨a, us, rfl, a1, a2⟩ := rep_tup hv
    exact ⟨a, us, rfl, .inr ⟨a1, rfl⟩, a2⟩
  case lst zs =>
    obtain ⟨a, us, rfl, a1, a2⟩ := rep_lst (st := st) rs hv (ds := ys) h
    exact ⟨a, us, rfl, .inl ⟨.inl (.inl a1), fun _ q => nomatch q⟩, a2⟩
  case loc n =>
    obtain ⟨a, us, rfl, a1, a2⟩ := rep_lst (st := st) rs hv (ds := ys) h
    exact ⟨a, us, rfl, .inl ⟨.inl (.inl a1), fun _ q => nomatch q⟩, a2⟩
  all_goals (simp only [seqOf] at h; cases h)
theorem bi_tuple : BiOk X T .tuple m (fun xs H Q => ∃ p ys, xs = [.ref p] ∧ ((SqL X.K H p ys ∧ ∀ l, H l = none → Q (.ref l) (upd H l (.tup ys))) ∨ (SqT X.K H p ys ∧ Q (.ref p) H))) := by
  intro ρ Z st st' H ds d vs Q rs q h k
  obtain ⟨x, rfl⟩ := one_of (fun _ a b l st => rfl) (fun _ _ => rfl) h
  obtain ⟨v, rfl, hv⟩ := reps1 q
  simp only [biD, Option.bind_eq_some_iff] at h
  obtain ⟨ys, h1, h2⟩ := h
  unfold mkT at h2
  split at h2
  · cases h2
    obtain ⟨a, us, rfl, a1, a2⟩ := seq_lst rs hv h1
    rcases a1 with ⟨a1, _⟩ | ⟨a1, rfl⟩
    · exact ⟨a, us, rfl, .inl ⟨a1, fun l hl => k _ _ _ _ (fr_new hl) (rs.new hl) (rep_newT rs hl a2)⟩⟩
    · exact ⟨a, us, rfl, .inr ⟨a1, k _ _ _ _ .refl rs hv⟩⟩
  · cases h2
theorem unkey_rep : ∀ {kvs : List (Key × D)} {ws : List (Key × V)}, KReps X.K ρ Z H kvs ws → Reps X.K ρ Z H (kvs.map fun kv => unkey kv.1) (ws.map fun kv => kV kv.1)
  | [], ws, h => by rw [h.unnil]; exact .nil
  | p :: kvs, ws, h => by
    obtain ⟨w, r, rfl, h1, h3, hz, h4⟩ := h.uncons
    simp only [List.map_cons]
    refine .cons ?_ (unkey_rep h4)
    rw [← h1]
    cases hp : p.1 with
    | inl i => simp [unkey, kV, Rep]
    | inr z => simp only [unkey, kV, Rep]; exact ⟨trivial, hz z hp⟩
theorem bi_list : BiOk X T .list m (fun xs H Q => (∃ p ys, xs = [.ref p] ∧ (SqL X.K H p ys ∨ SqT X.K H p ys) ∧ ∀ l, H l = none → Q (.ref l) (upd H l (.lst ys))) ∨
    ∃ (a : Addr) (kvs : List (Key × V)), xs = [.ref a] ∧ Rd H a (.dK kvs) ∧ ∀ p, H p = none → Q (.ref p) (upd H p (.lst (kvs.map fun kv => kV kv.1)))) := by
  intro ρ Z st st' H ds d vs Q rs q h k
  obtain ⟨x, rfl⟩ := one_of (fun _ a b l st => rfl) (fun _ _ => rfl) h
  obtain ⟨v, rfl, hv⟩ := reps1 q
  have h : listD m st x = some (d, st') := h
  unfold listD at h
  split at h
  · simp only [Rep] at hv
    obtain ⟨a, rfl, hv⟩ := hv
    refine .inl ⟨a, _, rfl, .inl ?_, fun l hl => mkL_ok rs hl (Reps.ints _) h k⟩
    rcases hv with ⟨o, hv⟩ | hv
    · exact .inl (.inr ⟨o, hv⟩)
    · exact .inr hv
  · split at h
    · rename_i ys hy
      obtain ⟨a, us, rfl, a1, a2⟩ := rep_seq rs hv hy
      exact .inl ⟨a, us, rfl, a1, fun l hl => mkL_ok rs hl a2 h k⟩
    · obtain ⟨kvs, h1, h2⟩ := Option.bind_eq_some_iff.mp h
      obtain ⟨a, ws, rfl, a1, a2⟩ := rep_dct rs hv h1
      exact .inr ⟨a, ws, rfl, a1, fun l hl => mkL_ok rs hl (unkey_rep a2) h2 k⟩
theorem bi_sorted : BiOk X T .sorted m (rSortedS X.K) := by
  intro ρ Z st st' H ds d vs Q rs q h k
  obtain ⟨x, rfl⟩ := one_of (fun _ a b l st => rfl) (fun _ _ => rfl) h
  obtain ⟨v, rfl, hv⟩ := reps1 q
  simp only [biD, Option.bind_eq_some_iff] at h
  obtain ⟨ys, h1, ss, h2, h3⟩ := h
  split at h3
  · rename_i hl
    obtain ⟨a, us, rfl, a1, a2⟩ := rep_lst rs hv h1
    obtain ⟨e, so⟩ := a2.eq_strs h2
    rw [e] at a1
    refine ⟨a, ss, rfl, .inl (.inl a1), hl, fun zs p pm so2 hp => ?_⟩
    rw [sort_is pm so2]
    exact mkL_ok rs hp (Reps.strs fun z hz => so z ((sortS_perm ss).mem_iff.mp hz)) h3 k
  · cases h3
/-- every built-in -/
theorem s_builtin {f : Bi} (G : Good g C T kk L X) (hg : glB L.sc f.name = true) (hs : es.all (fun e => !starP e) = true) (hn : es ≠ []) (h : All2 (SA X T C) xs es) : PE X (.Call (.Name f.name p) es [] pos) (tEv X.K T C (.bi f m xs)) := by
  cases f
  case len => exact s_bi G (by decide) hg hs hn h (.inl ⟨PySem.boot_len, CallR.or call_len_str call_len_seq⟩) bi_len
  case int => exact s_bi G (by decide) hg hs hn h (.inr ⟨PyProof.Rows.boot_int, CallR.or call_int1 call_int_str⟩) bi_int
  case bool => exact s_bi G (by decide) hg hs hn h (.inr ⟨PyProof.Rows.boot_bool, call_bool1⟩) bi_bool
  case abs => exact s_bi G (by decide) hg hs hn h (.inl ⟨PyProof.Rows.boot_abs, call_abs⟩) bi_abs
  case max => exact s_bi G (by decide) hg hs hn h (.inl ⟨PyProof.Rows.boot_max, CallR.or (call_max2 G.calm) (cr_max G.calm)⟩) bi_max
  case min => exact s_bi G (by decide) hg hs hn h (.inl ⟨PyProof.Rows.boot_min, CallR.or (call_min2 G.calm) (cr_min G.calm)⟩) bi_min
  case all => exact s_bi G (by decide) hg hs hn h (.inl ⟨PyProof.Rows.boot_all, cr_all G.calm⟩) bi_all
  case any => exact s_bi G (by decide) hg hs hn h (.inl ⟨PyProof.Rows.boot_any, cr_any G.calm⟩) bi_any
  case tuple => exact s_bi G (by decide) hg hs hn h (.inr ⟨PyProof.Rows.boot_tuple, call_tuple_of⟩) bi_tuple
  case list => exact s_bi G (by decide) hg hs hn h (.inr ⟨PyProof.Rows.boot_list, CallR.or call_list_of (call_listD G.calm)⟩) bi_list
  case sorted => exact s_bi G (by decide) hg hs hn h (.inl ⟨PyProof.Rows.boot_sorted, cr_sortedS⟩) bi_sorted

/-! ### list(range(n)), isinstance -/
variable {e : Expr} {a : _root_.Q.X}
theorem s_lrange {p2 pos2 : Pos} (G : Good g C T kk L X) (hl : glB L.sc "list" = true) (hr : glB L.sc "range" = true) (hs : starP e = false) (ha : PE X e (tEv X.K T C a)) :
    PE X (.Call (.Name "list" p) [.Call (.Name "range" p2) [e] [] pos2] [] pos) (tEv X.K T C (.lrange m a)) := by
  refine (pe_listRg G.calm (glB_ok G hl).1 (G.blt _ (by decide)) (prg_1 (glB_ok G hr).1 (G.blt _ (by decide)) ha (star_plain hs))).imp fun σ H Q h => ?_
  obtain ⟨ρ, Z, st, env, d, st', rs, re, h, k⟩ := h
  simp only [ev, Option.bind_eq_some_iff] at h
  obtain ⟨⟨x, st1⟩, h1, h2⟩ := h
  refine tEv.go rs re h1 fun ρ' Z' H' v f r' e' q => ?_
  cases x <;> simp only at h2
  case int j =>
    split at h2
    · rename_i hj
      simp only [Rep] at q
      subst q
      refine ⟨j, rfl, ?_, fun l hl => ?_⟩
      · exact RgOk.of_le (by decide) (by omega) (by decide) hj.1
      · refine mkL_ok r' hl (ds := rangeD 0 j) ?_ h2 fun ρ2 Z2 H2 w f2 r2 q2 => k _ _ _ _ (f.trans f2) r2 q2
        unfold rangeD rgV
        refine .of_get (by simp) fun i d v e1 e2 => ?_
        rw [List.getElem?_map] at e1 e2
        cases hi : (List.range (j - 0).toNat)[i]? with
        | none => rw [hi] at e1; cases e1
        | some n => rw [hi] at e1 e2; cases e1; cases e2; simp [Rep]
    · cases h2
  all_goals cases h2
end
end Q

/-! QSnd4: isinstance; methods of lists and dicts. -/
namespace Q
open PySem PySem.Spec PyProof.Rows L2

def tys5 : List String := ["bool", "int", "str", "tuple", "list"]
def tys6 : List String := ["NoneType", "bool", "int", "str", "tuple", "list"]
theorem kit_all : ∀ t ∈ tys6, ∀ u ∈ tys5, kitB t u = some (isTy t u) := by decide +kernel
theorem boot_tys : ∀ u ∈ tys5, bootBuiltins (u : Str) = some (.type u) := by decide +kernel
theorem blts_tys : ∀ u ∈ tys5, (u : Str) ∈ blts := by decide
theorem kit_any {K : PySem.W.Frag} {t : String} (ht : t ∈ tys6) : ∀ {us : List String}, (∀ u ∈ us, u ∈ tys5) → PySem.W.kitAny K (.type t) (us.map Value.type) = some (us.any fun u => isTy t u)
  | [], _ => kitAny_nil
  | u :: us, h => by
    have h1 := kit_ty (K := K) (kit_all t ht u (h u List.mem_cons_self))
    have ih := kit_any (K := K) ht (us := us) (fun z hz => h z (List.mem_cons_of_mem _ hz))
    simp only [List.map_cons, List.any_cons]
    refine kitAny_cons h1 (fun e => ?_) (fun e => ?_)
    · rw [ih, e]; rfl
    · rw [e]; rfl
section
variable {g : Sig} {C : Ctx} {T : List (Addr × Str)} {kk : Nat} {L : Lv} {X : Cx} {ρ : List Addr} {Z : Addr → Prop} {st st' : Store} {H : Hp} {e : Expr} {a : _root_.Q.X} {pos p p2 p3 : Pos}
theorem ty_rep (rs : RelS X.K T ρ Z st H) {d : D} {v : V} {t : String} (h : Rep X.K ρ Z H d v) (ht : tyOf st d = some t) : TyX X.K H v (.type t) ∧ t ∈ tys6 := by
  cases d <;> simp only [tyOf] at ht
  case non => cases ht; simp only [Rep] at h; subst h; exact ⟨.base .non, by decide⟩
  case bl => cases ht; simp only [Rep] at h; subst h; exact ⟨.base (.bl _), by decide⟩
  case int => cases ht; simp only [Rep] at h; subst h; exact ⟨.base (.int _), by decide⟩
  case str => cases ht; simp only [Rep] at h; obtain ⟨rfl, _⟩ := h; exact ⟨.base (.str _), by decide⟩
  case tup =>
    cases ht
    simp only [Rep] at h
    obtain ⟨a, vs, rfl, h1, _⟩ := h
    rcases h1 with ⟨h1, _⟩ | ⟨o, its, n, h1, h2, _⟩
    · exact ⟨.base (.tup h1), by decide⟩
    · exact ⟨.kTuple h1 h2, by decide⟩
  case lst =>
    cases ht
    simp only [Rep] at h
    obtain ⟨a, vs, rfl, ⟨h1, _⟩, _⟩ := h
    exact ⟨.base (.lst h1), by decide⟩
  case loc n =>
    simp only [Rep] at h
    obtain ⟨a, rfl, h1⟩ := h
    obtain ⟨so, h2, h3⟩ := rs.at h1
    rw [h2] at ht
    cases so <;> simp only at ht <;> cases ht
    obtain ⟨vs, h4, _⟩ := h3
    exact ⟨.base (.lst h4), by decide⟩
  case frz => cases ht
theorem isa_ok {us : List String} {d : D} {b : Bool} (h : isaD st us d = some b) : (∀ u ∈ us, u ∈ tys5) ∧ ∃ t, tyOf st d = some t ∧ b = us.any fun u => isTy t u := by
  unfold isaD at h
  split at h
  · rename_i ho
    obtain ⟨t, h1, h2⟩ := Option.map_eq_some_iff.mp h
    refine ⟨fun u hu => ?_, t, h1, h2.symm⟩
    have q := List.all_eq_true.mp ho u hu
    simp only [Bool.or_eq_true, beq_iff_eq] at q
    rcases q with (((rfl | rfl) | rfl) | rfl) | rfl <;> decide
  · cases h
theorem pe_ty {u : String} (G : Good g C T kk L X) (hu : u ∈ tys5) (hg : glB L.sc u = true) : PE X (.Name u p) (tC (.ty u)) :=
  pe_bltn (glB_ok G hg).1 (G.blt _ (blts_tys u hu)) (boot_tys u hu) rfl (glB_ok G hg).2.2 (glB_ok G hg).2.1
theorem s_isa1 {u : String} (G : Good g C T kk L X) (hi : glB L.sc "isinstance" = true) (hu : u ∈ tys5) (hg : glB L.sc u = true) (hs : starP e = false) (ha : PE X e (tEv X.K T C a)) :
    PE X (.Call (.Name "isinstance" p) [e, .Name u p2] [] pos) (tEv X.K T C (.isa [u] a)) := by
  refine (pe_callB call_isi (glB_ok G hi).1 (G.blt _ (by decide)) PyProof.Rows.boot_isinstance (pa_cons ha (pa_cons (pe_ty G hu hg) pa_nil (by rfl)) (star_plain hs)) (glB_ok G hi).2.2 (glB_ok G hi).2.1 (star_plain hs) (by rfl)).imp fun σ H Q h => ?_
  obtain ⟨ρ, Z, st, env, d, st', rs, re, h, k⟩ := h
  simp only [ev, Option.bind_eq_some_iff, Option.map_eq_some_iff] at h
  obtain ⟨⟨x, st1⟩, h1, b, h2, h3⟩ := h
  cases h3
  obtain ⟨_, t, h4, h5⟩ := isa_ok h2
  refine tEv.go rs re h1 fun ρ' Z' H' v f r' e' q => ?_
  obtain ⟨q1, q2⟩ := ty_rep r' q h4
  refine ⟨v, .ty u, .type t, .type u, isTy t u, rfl, .ty u, q1, kit_ty (kit_all t q2 u hu), ?_⟩
  have : b = isTy t u := by rw [h5]; simp
  rw [← this]
  exact k _ _ _ _ f r' (by simp [Rep])
theorem s_isa2 {u w : String} {j : Nat} {p4 : Pos} (G : Good g C T kk L X) (hi : glB L.sc "isinstance" = true) (hu : u ∈ tys5) (hg : glB L.sc u = true) (hw : w ∈ tys5) (hg2 : glB L.sc w = true) (hs : starP e = false) (ha : PE X e (tEv X.K T C a)) :
    PE X (.Call (.Name "isinstance" p) [e, .Tuple [.Name u p2, .Name w p3] j p4] [] pos) (tEv X.K T C (.isa [u, w] a)) := by
  refine (pe_callB call_isiT (glB_ok G hi).1 (G.blt _ (by decide)) PyProof.Rows.boot_isinstance (pa_cons ha (pa_cons (pe_tup (pa_cons (pe_ty G hu hg) (pa_cons (pe_ty G hw hg2) pa_nil (by rfl)) (by rfl))) pa_nil (by rfl)) (star_plain hs)) (glB_ok G hi).2.2 (glB_ok G hi).2.1 (star_plain hs) (by rfl)).imp fun σ H Q h => ?_
  obtain ⟨ρ, Z, st, env, d, st', rs, re, h, k⟩ := h
  simp only [ev, Option.bind_eq_some_iff, Option.map_eq_some_iff] at h
  obtain ⟨⟨x, st1⟩, h1, b, h2, h3⟩ := h
  cases h3
  obtain ⟨_, t, h4, h5⟩ := isa_ok h2
  refine tEv.go rs re h1 fun ρ' Z' H' v f r' e' q => ?_
  refine ⟨by show 2 ≤ sizeLine; decide, fun n hn => ?_⟩
  have fn := fr_new (ρ := ρ') (Z := Z') (o := .tup [.ty u, .ty w]) hn
  obtain ⟨q1, q2⟩ := ty_rep (r'.new (o := .tup [.ty u, .ty w]) hn) (Rep.mono r'.sub fn _ _ q) h4
  refine ⟨v, n, [.ty u, .ty w], .type t, [.type u, .type w], [u, w].any fun u => isTy t u, rfl, upd_same, .cons (.ty u) (.cons (.ty w) .nil), q1, kit_any q2 (us := [u, w]) (by simp [hu, hw]), ?_⟩
  rw [← h5]
  exact k _ _ _ _ (f.trans fn) (r'.new hn) (by simp [Rep])
/-! ### methods -/
def recvP : Expr → Bool
  | .Name _ _ => true
  | .Constant _ _ _ => true
  | _ => false
theorem recv_base {o : Expr} {m : Str} {env : PySem.Env} (h : recvP o = true) : attributeBase o m env (eval o env) = eval o env := by
  cases o <;> first | rfl | (simp [recvP] at h)
theorem few1 {e : Expr} {env : PySem.Env} {cpos : Pos} (h : starP e = false) : ((backTo cpos (starEach [e] env)).all (fun x => !x.1) && (backToKw cpos (keywordEach [] env)).all (fun x => x.1.isSome)
    && decide (([e] : List Expr).length + ([] : List Keyword).length + (if ([] : List Keyword).isEmpty then 0 else 1) < 30)) = true := by
  rw [star_plain h]; rfl
theorem few2 {e e' : Expr} {env : PySem.Env} {cpos : Pos} (h : starP e = false) (h' : starP e' = false) : ((backTo cpos (starEach [e, e'] env)).all (fun x => !x.1) && (backToKw cpos (keywordEach [] env)).all (fun x => x.1.isSome)
    && decide (([e, e'] : List Expr).length + ([] : List Keyword).length + (if ([] : List Keyword).isEmpty then 0 else 1) < 30)) = true := by
  rw [star_plain h, star_plain h']; rfl
theorem m1_ok {o e : Expr} {m : Str} {apos cpos : Pos} (ho : recvP o = true) (he : starP e = false) (hl : (apos.endLine == cpos.line) = true) : M1 X o m apos e cpos := ⟨recv_base ho, few1 he, hl, by rw [star_plain he]; rfl⟩
theorem setP {n : Nat} {so so' : SO} (h : st[n]? = some so) : n < st.length := (List.getElem?_eq_some_iff.mp h).1
variable {o : Expr} {b : _root_.Q.X} {apos cpos : Pos}
theorem ml_ty (rs : RelS X.K T ρ Z st H) {f : Me} {d : D} {v : V} (hf : f ≠ .popK ∧ f ≠ .get) (h : Rep X.K ρ Z H d v) (ho : meOk f d st = true) : tyV X.K "list" v H := by
  have : ∃ n, d = .loc n ∧ (lstOf st d).isSome = true := by
    unfold meOk at ho
    split at ho
    · exact absurd rfl hf.1
    · exact absurd rfl hf.2
    · split at ho
      · exact ⟨_, rfl, ho⟩
      · cases ho
  obtain ⟨n, rfl, hl⟩ := this
  obtain ⟨ds, hd⟩ := Option.isSome_iff_exists.mp hl
  obtain ⟨a, vs, rfl, a1, a2⟩ := rep_lst rs h hd
  exact .inl ⟨rfl, vs, .inl (.inl a1)⟩
theorem loc_lst (rs : RelS X.K T ρ Z st H) {n : Nat} {v : V} {ds : List D} (h : Rep X.K ρ Z H (.loc n) v) (e : st[n]? = some (.lst ds)) : ∃ a vs, v = .ref a ∧ ρ[n]? = some a ∧ H a = some (.lst vs) ∧ Reps X.K ρ Z H ds vs := by
  simp only [Rep] at h
  obtain ⟨a, rfl, h1⟩ := h
  obtain ⟨vs, h2, h3⟩ := rs.obj n a _ h1 e
  exact ⟨a, vs, rfl, h1, h2, h3⟩
theorem loc_dct (rs : RelS X.K T ρ Z st H) {n : Nat} {v : V} {kvs : List (Key × D)} (h : Rep X.K ρ Z H (.loc n) v) (e : st[n]? = some (.dct kvs)) : ∃ a ws, v = .ref a ∧ ρ[n]? = some a ∧ H a = some (.dK ws) ∧ KReps X.K ρ Z H kvs ws := by
  simp only [Rep] at h
  obtain ⟨a, rfl, h1⟩ := h
  obtain ⟨vs, h2, h3⟩ := rs.obj n a _ h1 e
  exact ⟨a, vs, rfl, h1, h2, h3⟩
/-- a list written at its place -/
theorem put_lst (rs : RelS X.K T ρ Z st H) {n : Nat} {a : Addr} {vs us : List V} {es : List D} (h1 : ρ[n]? = some a) (h2 : H a = some (.lst vs)) (h3 : Reps X.K ρ Z H es us) :
    Fr ρ Z H ρ Z (upd H a (.lst us)) ∧ RelS X.K T ρ Z (st.set n (.lst es)) (upd H a (.lst us)) := by
  have nf : ∀ o u, H a ≠ some (.frz o u) := fun o u e => by rw [h2] at e; cases e
  have f := fr_write (ρ := ρ) (Z := Z) (o := .lst us) (List.mem_of_getElem? h1) ⟨_, h2⟩ nf
  exact ⟨f, rs.write h1 nf ⟨us, upd_same, Reps.mono rs.sub f _ _ h3⟩⟩
theorem put_dct (rs : RelS X.K T ρ Z st H) {n : Nat} {a : Addr} {ws us : List (Key × V)} {es : List (Key × D)} (h1 : ρ[n]? = some a) (h2 : H a = some (.dK ws)) (h3 : KReps X.K ρ Z H es us) :
    Fr ρ Z H ρ Z (upd H a (.dK us)) ∧ RelS X.K T ρ Z (st.set n (.dct es)) (upd H a (.dK us)) := by
  have nf : ∀ o u, H a ≠ some (.frz o u) := fun o u e => by rw [h2] at e; cases e
  have f := fr_write (ρ := ρ) (Z := Z) (o := .dK us) (List.mem_of_getElem? h1) ⟨_, h2⟩ nf
  exact ⟨f, rs.write h1 nf ⟨us, upd_same, KReps.mono rs.sub f h3⟩⟩
theorem s_append (ha : PE X o (tEv X.K T C a)) (hb : PE X e (tEv X.K T C b)) (hr : recvP o = true) (hs : starP e = false) (hl : (apos.endLine == cpos.line) = true) (hx : starX b = false) :
    PE X (.Call (.Attribute o "append" apos) [e] [] cpos) (tEv X.K T C (.meth .append a [b])) := by
  refine (pe_bm PySem.F.plainAttrs_list PySem.F.slot_list_append PySem.F.type_list_append mt_append ha (pa_cons hb pa_nil (star_plain hs)) (recv_base hr) (few1 hs) hl (star_plain hs) (by rfl)).imp fun σ H Q h => ?_
  obtain ⟨ρ, Z, st, env, d, st', rs, re, h, k⟩ := h
  simp only [ev, Option.bind_eq_some_iff] at h
  obtain ⟨⟨x, st1⟩, h1, h2⟩ := h
  split at h2
  · rename_i ok
    rw [evL_cons hx] at h2
    simp only [evL, Option.bind_eq_some_iff, Option.map_eq_some_iff] at h2
    obtain ⟨⟨ds, st2⟩, ⟨⟨y, st3⟩, h3, ⟨w, st4⟩, h4, h5⟩, h6⟩ := h2
    cases h4; cases h5
    refine tEv.go rs re h1 fun ρ1 Z1 H1 v f1 r1 e1 q1 => ⟨ml_ty r1 (by decide) q1 ok, ?_⟩
    refine tEv.go r1 e1 h3 fun ρ2 Z2 H2 u f2 r2 e2 q2 => ?_
    have q1' := Rep.mono r1.sub f2 _ _ q1
    unfold methD at h6
    cases x <;> simp only at h6
    case loc n =>
      split at h6
      · rename_i xs hx
        split at h6
        · rename_i hz
          cases h6
          obtain ⟨p, vs, rfl, a1, a2, a3⟩ := loc_lst r2 q1' hx
          obtain ⟨f3, r3⟩ := put_lst r2 a1 a2 (a3.append (.cons q2 .nil))
          exact ⟨p, vs, u, rfl, rfl, a2, by rw [← a3.len]; exact hz, k _ _ _ _ ((f1.trans f2).trans f3) r3 (by simp [Rep])⟩
        · cases h6
      · cases h6
    all_goals cases h6
  · cases h2
theorem s_pop (ha : PE X o (tEv X.K T C a)) (hb : PE X e (tEv X.K T C b)) (hr : recvP o = true) (hs : starP e = false) (hl : (apos.endLine == cpos.line) = true) (hx : starX b = false) :
    PE X (.Call (.Attribute o "pop" apos) [e] [] cpos) (tEv X.K T C (.meth .pop a [b])) := by
  refine (pe_bm PySem.F.plainAttrs_list PySem.F.slot_list_pop PySem.F.type_list_pop mt_popAt ha (pa_cons hb pa_nil (star_plain hs)) (recv_base hr) (few1 hs) hl (star_plain hs) (by rfl)).imp fun σ H Q h => ?_
  obtain ⟨ρ, Z, st, env, d, st', rs, re, h, k⟩ := h
  simp only [ev, Option.bind_eq_some_iff] at h
  obtain ⟨⟨x, st1⟩, h1, h2⟩ := h
  split at h2
  · rename_i ok
    rw [evL_cons hx] at h2
    simp only [evL, Option.bind_eq_some_iff, Option.map_eq_some_iff] at h2
    obtain ⟨⟨ds, st2⟩, ⟨⟨y, st3⟩, h3, ⟨w, st4⟩, h4, h5⟩, h6⟩ := h2
    cases h4; cases h5
    refine tEv.go rs re h1 fun ρ1 Z1 H1 v f1 r1 e1 q1 => ⟨ml_ty r1 (by decide) q1 ok, ?_⟩
    refine tEv.go r1 e1 h3 fun ρ2 Z2 H2 u f2 r2 e2 q2 => ?_
    have q1' := Rep.mono r1.sub f2 _ _ q1
    unfold methD at h6
    cases x <;> simp only at h6
    case loc n =>
      cases y <;> simp only at h6
      case int i =>
        split at h6
        · rename_i xs hx
          split at h6
          · rename_i hlim
            simp only [Option.bind_eq_some_iff, Option.map_eq_some_iff] at h6
            obtain ⟨j, h7, z, h8, h9⟩ := h6
            cases h9
            simp only [Rep] at q2
            subst q2
            obtain ⟨p, vs, rfl, a1, a2, a3⟩ := loc_lst r2 q1' hx
            obtain ⟨zv, b1, b2⟩ := a3.get h8
            obtain ⟨f3, r3⟩ := put_lst r2 a1 a2 (a3.erase j)
            obtain ⟨c1, c2, c3, c4⟩ := ixN_seq h7
            have hm := of_decide_eq_true hlim
            exact ⟨p, vs, i, j, zv, rfl, rfl, a2, by omega, by omega, by rw [← a3.len]; exact c1, b1, k _ _ _ _ ((f1.trans f2).trans f3) r3 (Rep.mono r2.sub f3 _ _ b2)⟩
          · cases h6
        · cases h6
      all_goals cases h6
    all_goals cases h6
  · cases h2
theorem md_ty (rs : RelS X.K T ρ Z st H) {f : Me} {d : D} {v : V} (hf : f = .popK ∨ f = .get) (h : Rep X.K ρ Z H d v) (ho : meOk f d st = true) : ∃ a, v = .ref a ∧ IsD H a := by
  have hd : (dctOf st d).isSome = true := by rcases hf with rfl | rfl <;> exact ho
  obtain ⟨kvs, hk⟩ := Option.isSome_iff_exists.mp hd
  obtain ⟨a, ws, rfl, a1, a2⟩ := rep_dct rs h hk
  exact ⟨a, rfl, .inl ⟨ws, a1⟩⟩
theorem s_popK (ha : PE X o (tEv X.K T C a)) (hb : PE X e (tEv X.K T C b)) (hr : recvP o = true) (hs : starP e = false) (hl : (apos.endLine == cpos.line) = true) (hx : starX b = false) :
    PE X (.Call (.Attribute o "pop" apos) [e] [] cpos) (tEv X.K T C (.meth .popK a [b])) := by
  refine (pe_dpop1 ha hb (m1_ok hr hs hl)).imp fun σ H Q h => ?_
  obtain ⟨ρ, Z, st, env, d, st', rs, re, h, k⟩ := h
  simp only [ev, Option.bind_eq_some_iff] at h
  obtain ⟨⟨x, st1⟩, h1, h2⟩ := h
  split at h2
  · rename_i ok
    rw [evL_cons hx] at h2
    simp only [evL, Option.bind_eq_some_iff, Option.map_eq_some_iff] at h2
    obtain ⟨⟨ds, st2⟩, ⟨⟨y, st3⟩, h3, ⟨w, st4⟩, h4, h5⟩, h6⟩ := h2
    cases h4; cases h5
    refine tEv.go rs re h1 fun ρ1 Z1 H1 v f1 r1 e1 q1 => ?_
    obtain ⟨ad, rfl, isd⟩ := md_ty r1 (.inl rfl) q1 ok
    refine ⟨ad, rfl, isd, ?_⟩
    refine tEv.go r1 e1 h3 fun ρ2 Z2 H2 u f2 r2 e2 q2 => ?_
    have q1' := Rep.mono r1.sub f2 _ _ q1
    unfold methD at h6
    cases x <;> simp only at h6
    case loc n =>
      split at h6
      · rename_i kvs hk
        simp only [Option.bind_eq_some_iff, Option.map_eq_some_iff] at h6
        obtain ⟨ky, h7, z, h8, h9⟩ := h6
        cases h9
        obtain ⟨p, ws, e1, a1, a2, a3⟩ := loc_dct r2 q1' hk
        cases e1
        obtain ⟨zv, b1, b2⟩ := (valV_rep (k := ky) a3).1 _ h8
        obtain ⟨f3, r3⟩ := put_dct r2 a1 a2 (drop_rep (k := ky) a3)
        exact ⟨ws, ky, zv, a2, rep_key q2 h7, b1, k _ _ _ _ ((f1.trans f2).trans f3) r3 (Rep.mono r2.sub f3 _ _ b2)⟩
      · cases h6
    all_goals cases h6
  · cases h2
theorem s_get (G : Good g C T kk L X) (ha : PE X o (tEv X.K T C a)) (hb : PE X e (tEv X.K T C b)) (hr : recvP o = true) (hs : starP e = false) (hl : (apos.endLine == cpos.line) = true) (hx : starX b = false) :
    PE X (.Call (.Attribute o "get" apos) [e] [] cpos) (tEv X.K T C (.meth .get a [b])) := by
  refine (pe_dget1 G.u1 ha hb (m1_ok hr hs hl)).imp fun σ H Q h => ?_
  obtain ⟨ρ, Z, st, env, d, st', rs, re, h, k⟩ := h
  simp only [ev, Option.bind_eq_some_iff] at h
  obtain ⟨⟨x, st1⟩, h1, h2⟩ := h
  split at h2
  · rename_i ok
    rw [evL_cons hx] at h2
    simp only [evL, Option.bind_eq_some_iff, Option.map_eq_some_iff] at h2
    obtain ⟨⟨ds, st2⟩, ⟨⟨y, st3⟩, h3, ⟨w, st4⟩, h4, h5⟩, h6⟩ := h2
    cases h4; cases h5
    refine tEv.go rs re h1 fun ρ1 Z1 H1 v f1 r1 e1 q1 => ?_
    obtain ⟨ad, rfl, isd⟩ := md_ty r1 (.inr rfl) q1 ok
    refine ⟨ad, rfl, isd, ?_⟩
    refine tEv.go r1 e1 h3 fun ρ2 Z2 H2 u f2 r2 e2 q2 => ?_
    have q1' := Rep.mono r1.sub f2 _ _ q1
    simp only [methD, Option.bind_eq_some_iff, Option.map_eq_some_iff] at h6
    obtain ⟨kvs, h7, ky, h8, h9⟩ := h6
    cases h9
    obtain ⟨p, ws, e1, a1, a2⟩ := rep_dct r2 q1' h7
    cases e1
    obtain ⟨c1, c2⟩ := valV_rep (k := ky) a2
    refine ⟨valV ws ky, .inl ⟨ws, ky, a1, rep_key q2 h8, rfl⟩, ?_⟩
    cases hd : dget kvs ky with
    | none =>
      rw [c2 hd]
      refine k _ _ _ _ (f1.trans f2) r2 ?_
      rw [hd]; simp [Rep]
    | some z =>
      obtain ⟨zv, b1, b2⟩ := c1 z hd
      rw [b1]
      refine k _ _ _ _ (f1.trans f2) r2 ?_
      rw [hd]; exact b2
  · cases h2
variable {e2 : Expr} {b2 : _root_.Q.X}
theorem s_insert (ha : PE X o (tEv X.K T C a)) (hb : PE X e (tEv X.K T C b)) (hb2 : PE X e2 (tEv X.K T C b2)) (hr : recvP o = true) (hs : starP e = false) (hs2 : starP e2 = false) (hl : (apos.endLine == cpos.line) = true) (hx : starX b = false) (hx2 : starX b2 = false) :
    PE X (.Call (.Attribute o "insert" apos) [e, e2] [] cpos) (tEv X.K T C (.meth .insert a [b, b2])) := by
  refine (pe_bm PySem.F.plainAttrs_list PySem.F.slot_list_insert PySem.F.type_list_insert mt_insert ha (pa_cons hb (pa_cons hb2 pa_nil (star_plain hs2)) (star_plain hs)) (recv_base hr) (few2 hs hs2) hl (star_plain hs) (stars_none (by simp [hs2]))).imp fun σ H Q h => ?_
  obtain ⟨ρ, Z, st, env, d, st', rs, re, h, k⟩ := h
  simp only [ev, Option.bind_eq_some_iff] at h
  obtain ⟨⟨x, st1⟩, h1, h2⟩ := h
  split at h2
  · rename_i ok
    rw [evL_cons hx] at h2
    simp only [Option.bind_eq_some_iff, Option.map_eq_some_iff] at h2
    obtain ⟨⟨ds, st2⟩, ⟨⟨y, st3⟩, h3, ⟨w, st4⟩, h4, h5⟩, h6⟩ := h2
    rw [evL_cons hx2] at h4
    simp only [evL, Option.bind_eq_some_iff, Option.map_eq_some_iff] at h4
    obtain ⟨⟨y2, st5⟩, h7, ⟨w2, st6⟩, h8, h9⟩ := h4
    cases h8; cases h9; cases h5
    refine tEv.go rs re h1 fun ρ1 Z1 H1 v f1 r1 e1 q1 => ⟨ml_ty r1 (by decide) q1 ok, ?_⟩
    refine tEv.go r1 e1 h3 fun ρ2 Z2 H2 u f2 r2 e2 q2 => tEv.go r2 e2 h7 fun ρ3 Z3 H3 u2 f3 r3 e3 q3 => ?_
    have f23 := f2.trans f3
    have q1' := Rep.mono r1.sub f23 _ _ q1
    have q2' := Rep.mono r2.sub f3 _ _ q2
    unfold methD at h6
    cases x <;> simp only at h6
    case loc n =>
      cases y <;> simp only at h6
      case int i =>
        split at h6
        · rename_i xs hx
          split at h6
          · rename_i hz
            cases h6
            simp only [Rep] at q2'
            subst q2'
            obtain ⟨p, vs, rfl, a1, a2, a3⟩ := loc_lst r3 q1' hx
            obtain ⟨f4, r4⟩ := put_lst r3 a1 a2 (((a3.take i.toNat).append (.cons q3 .nil)).append (a3.drop i.toNat))
            exact ⟨p, vs, i, u2, rfl, rfl, a2, by rw [← a3.len]; exact hz.1, hz.2.1, hz.2.2, k _ _ _ _ ((f1.trans f23).trans f4) r4 (by simp [Rep])⟩
          · cases h6
        · cases h6
      all_goals cases h6
    all_goals cases h6
  · cases h2
end
end Q

/-! QSnd5: targets of for and of comprehensions, what is walked, comprehensions. -/
namespace Q
open PySem PySem.Spec PyProof.Rows L2

/-- what a step keeps of the heap's reading -/
structure Here (K : PySem.W.Frag) (T : List (Addr × Str)) (ρ : List Addr) (Z : Addr → Prop) (st : Store) (H : Hp) (env : Env) (σ : L2.St) : Prop where
  rs : RelS K T ρ Z st H
  re : RelE K ρ Z H env σ

/-! ### targets -/
mutual
def tSlots : Tt → List Nat
  | .name i => [i]
  | .tup ts => tSlotsL ts
  | .sub _ _ => []
  | .subK _ _ => []
def tSlotsL : List Tt → List Nat
  | [] => []
  | t :: ts => tSlots t ++ tSlotsL ts
end
mutual
/-- the target is the tree's (names and tuples of names) -/
def okB (L : Lv) : Tt → Expr → Bool
  | .name i, .Name x _ => decide (L.N[i]? = some x) && ((L.fn x && locB L.sc x) || L.sc.names.lookup x == some .local)
  | .tup ts, .Tuple es _ _ => decide (ts.length = es.length) && okBs L ts es
  | _, _ => false
def okBs (L : Lv) : List Tt → List Expr → Bool
  | [], [] => true
  | t :: ts, e :: es => okB L t e && okBs L ts es
  | _, _ => false
end
def tBd (K : PySem.W.Frag) (t : Tt) : TG := fun v σ H Q => ∃ ρ Z env d env', (∀ a ∈ ρ, Z a) ∧ RelE K ρ Z H env σ ∧ Rep K ρ Z H d v ∧ bindT t d env = some env' ∧
  ∀ σ', RelE K ρ Z H env' σ' → σ'.length = σ.length → (∀ i, i ∉ tSlots t → σ'[i]? = σ[i]?) → Q σ' H
def tBds (K : PySem.W.Frag) (ts : List Tt) : TGs := fun vs σ H Q => ∃ ρ Z env ds env', (∀ a ∈ ρ, Z a) ∧ RelE K ρ Z H env σ ∧ Reps K ρ Z H ds vs ∧ bindTs ts ds env = some env' ∧
  ∀ σ', RelE K ρ Z H env' σ' → σ'.length = σ.length → (∀ i, i ∉ tSlotsL ts → σ'[i]? = σ[i]?) → Q σ' H
theorem _root_.L2.PG.imp {X : Cx} {e : Expr} {t t' : TG} (h : PG X e t) (i : ∀ v σ H Q, t' v σ H Q → t v σ H Q) : PG X e t' := ⟨fun pins s σ H x u Q I r hw => h.run pins s σ H x u Q I r (i x σ H Q hw)⟩
theorem _root_.L2.PGs.imp {X : Cx} {e : List Expr} {t t' : TGs} (h : PGs X e t) (i : ∀ v σ H Q, t' v σ H Q → t v σ H Q) : PGs X e t' := ⟨fun pins s σ H x u Q I r hw => h.run pins s σ H x u Q I r (i x σ H Q hw)⟩
theorem _root_.L2.PI.imp {X : Cx} {tg e : Expr} {t t' : TI} (h : PI X tg e t) (i : ∀ σ H R, t' σ H R → t σ H R) : PI X tg e t' := ⟨fun pins s σ H R I hw => h.run pins s σ H R I (i σ H R hw)⟩
theorem _root_.L2.PI.or {X : Cx} {tg e : Expr} {t t' : TI} (h : PI X tg e t) (h' : PI X tg e t') : PI X tg e (fun σ H R => t σ H R ∨ t' σ H R) := ⟨fun pins s σ H R I hw => by
  rcases hw with hw | hw
  · exact h.run pins s σ H R I hw
  · exact h'.run pins s σ H R I hw⟩
section
variable {g : Sig} {C : Ctx} {T : List (Addr × Str)} {kk : Nat} {L : Lv} {X : Cx}
theorem s_bname {i : Nat} {x : Str} {p : Pos} (G : Good g C T kk L X) (h : okB L (.name i) (.Name x p) = true) : PG X (.Name x p) (tBd X.K (.name i)) := by
  simp only [okB, Bool.and_eq_true, Bool.or_eq_true, decide_eq_true_eq, beq_iff_eq] at h
  obtain ⟨h1, h2⟩ := h
  have hloc : Loc X.env.scope x := by
    rw [G.sc]
    rcases h2 with h2 | h2
    · exact locB_ok h2.2
    · exact .inl h2
  have hf : X.fn x = true ∨ X.env.scope.names.lookup x = some .local := by
    rcases h2 with h2 | h2
    · exact .inl (G.fn x h2.1)
    · rw [G.sc]; exact .inr h2
  refine (pg_name (i := i) (by rw [G.hN]; exact G.nd) (by rw [G.hN]; exact h1) hloc hf).imp fun v σ H Q h => ?_
  obtain ⟨ρ, Z, env, d, env', sub, re, r, hb, k⟩ := h
  simp only [bindT] at hb
  split at hb
  · cases hb
    refine k _ (re.set r) (List.length_set) fun j hj => ?_
    rw [List.getElem?_set_ne (fun e => hj (by simp [tSlots, e]))]
  · cases hb
theorem okB_plain {L : Lv} {t : Tt} {e : Expr} (h : okB L t e = true) : starP e = false := by
  cases t <;> cases e <;> first | rfl | (simp [okB] at h)
theorem asg_cons {e : Expr} {es : List Expr} {env : PySem.Env} (h : starP e = false) : assignEach (e :: es) env = (false, assign e env) :: assignEach es env := by
  cases e <;> first | rfl | (simp [starP] at h)
theorem asg_len {env : PySem.Env} : ∀ {ts : List Tt} {es : List Expr}, okBs L ts es = true → (assignEach es env).length = es.length ∧ List.findIdx? (fun x => x.1) (assignEach es env) = none
  | [], es, h => by
    cases es <;> first | (simp [okBs] at h; done) | skip
    exact ⟨rfl, rfl⟩
  | t :: ts, es, h => by
    cases es <;> first | (simp [okBs] at h; done) | skip
    simp only [okBs, Bool.and_eq_true] at h
    obtain ⟨h1, h2⟩ := asg_len (env := env) h.2
    rw [asg_cons (okB_plain h.1)]
    exact ⟨by simp [h1], by simp [List.findIdx?_cons, h2]⟩
mutual
theorem s_bind (G : Good g C T kk L X) : ∀ (t : Tt) (e : Expr), okB L t e = true → PG X e (tBd X.K t)
  | .name i, e, h => by
    cases e <;> first | (simp [okB] at h; done) | skip
    exact s_bname G h
  | .tup ts, e, h => by
    cases e <;> first | (simp [okB] at h; done) | skip
    rename_i es j p
    simp only [okB, Bool.and_eq_true, decide_eq_true_eq] at h
    refine (pg_tup (n := es.length) G.calm (s_binds G ts es h.2) (asg_len h.2).1 (asg_len h.2).2).imp fun v σ H Q hh => ?_
    obtain ⟨ρ, Z, env, d, env', sub, re, r, hb, k⟩ := hh
    cases d <;> simp only [bindT] at hb
    case tup ds =>
      split at hb
      · rename_i hl
        obtain ⟨a, vs, rfl, a1, a2⟩ := rep_tup r
        exact ⟨a, vs, rfl, a1, by rw [← a2.len, hl, h.1], ρ, Z, env, ds, env', sub, re, a2, hb, k⟩
      · cases hb
    all_goals cases hb
  | .sub _ _, e, h => by simp [okB] at h
  | .subK _ _, e, h => by simp [okB] at h
theorem s_binds (G : Good g C T kk L X) : ∀ (ts : List Tt) (es : List Expr), okBs L ts es = true → PGs X es (tBds X.K ts)
  | [], es, h => by
    cases es <;> first | (simp [okBs] at h; done) | skip
    refine pgs_nil.imp fun vs σ H Q hh => ?_
    obtain ⟨ρ, Z, env, ds, env', sub, re, r, hb, k⟩ := hh
    cases ds <;> simp only [bindTs] at hb
    · cases hb
      simp only [Reps] at r
      exact ⟨r, k σ re rfl fun _ _ => rfl⟩
    · cases hb
  | t :: ts, es, h => by
    cases es <;> first | (simp [okBs] at h; done) | skip
    rename_i e es
    simp only [okBs, Bool.and_eq_true] at h
    refine (pgs_cons (s_bind G t e h.1) (s_binds G ts es h.2) (by rw [asg_cons (okB_plain h.1)]; rfl)).imp fun vs σ H Q hh => ?_
    obtain ⟨ρ, Z, env, ds, env', sub, re, r, hb, k⟩ := hh
    cases ds <;> simp only [bindTs] at hb
    · cases hb
    · rename_i d ds
      obtain ⟨env1, h1, h2⟩ := Option.bind_eq_some_iff.mp hb
      simp only [Reps] at r
      obtain ⟨v, rr, rfl, r1, r2⟩ := r
      refine ⟨v, rr, rfl, ρ, Z, env, d, env1, sub, re, r1, h1, fun σ1 re1 l1 s1 => ?_⟩
      refine ⟨ρ, Z, env1, ds, env', sub, re1, r2, h2, fun σ2 re2 l2 s2 => ?_⟩
      refine k σ2 re2 (l2.trans l1) fun i hi => ?_
      simp only [tSlotsL, List.mem_append, not_or] at hi
      rw [s2 i hi.2, s1 i hi.1]
end
theorem wipe_get (σ : L2.St) : ∀ (vs : List Nat) (i : Nat), i ∉ vs → (wipe σ vs)[i]? = σ[i]?
  | [], _, _ => rfl
  | v :: vs, i, h => by
    simp only [List.mem_cons, not_or] at h
    show ((wipe σ vs).set v none)[i]? = _
    rw [List.getElem?_set_ne (fun e => h.1 e.symm), wipe_get σ vs i h.2]
theorem wipe_in (σ : L2.St) : ∀ (vs : List Nat) (i : Nat), i ∈ vs → i < σ.length → (wipe σ vs)[i]? = some none
  | v :: vs, i, h, hl => by
    show ((wipe σ vs).set v none)[i]? = _
    by_cases e : v = i
    · subst e
      rw [List.getElem?_set_self (by rw [wipe_length]; exact hl)]
    · rw [List.getElem?_set_ne e]
      rcases List.mem_cons.mp h with h | h
      · exact absurd h.symm e
      · exact wipe_in σ vs i h hl
/-- binding one's own names again: nothing else has changed -/
theorem wipe_eq {σ σ' : L2.St} {vs ss : List Nat} (hs : ∀ i ∈ ss, i ∈ vs) (hl : σ'.length = (wipe σ vs).length) (h : ∀ i, i ∉ ss → σ'[i]? = (wipe σ vs)[i]?) : wipe σ' vs = wipe σ vs := by
  have hl' : σ'.length = σ.length := by rw [hl, wipe_length]
  refine List.ext_getElem? fun i => ?_
  by_cases hi : i ∈ vs
  · by_cases hlt : i < σ.length
    · rw [wipe_in σ vs i hi hlt, wipe_in σ' vs i hi (by omega)]
    · rw [List.getElem?_eq_none (by rw [wipe_length]; omega), List.getElem?_eq_none (by rw [wipe_length]; omega)]
  · rw [wipe_get σ' vs i hi, h i (fun z => hi (hs i z))]

/-! ### what is walked -/
/-- at the heap H and behind it, as long as the guard holds, J gives the items ds -/
def Src (K : PySem.W.Frag) (T : List (Addr × Str)) (ρ : List Addr) (Z : Addr → Prop) (H : Hp) (J : L2.It) (gd : Option (Nat × List D)) (ds : List D) : Prop :=
  ∀ ρ' Z' st' H', Fz ρ Z H ρ' Z' H' → RelS K T ρ' Z' st' H' → guardOk gd st' = true → (∀ i, i < ds.length → J.go i H') ∧ J.stop ds.length H' ∧
    ∀ i x H'', i < ds.length → J.yld i H' x H'' → ∃ d, ds[i]? = some d ∧ Fr ρ' Z' H' ρ' Z' H'' ∧ RelS K T ρ' Z' st' H'' ∧ Rep K ρ' Z' H'' d x
def tIt (K : PySem.W.Frag) (T : List (Addr × Str)) (C : Ctx) (it : Q.It) : TI := fun σ H R => ∃ ρ Z st env gd ds st', RelS K T ρ Z st H ∧ RelE K ρ Z H env σ ∧ evIt C it env st = some (gd, ds, st') ∧
  ∀ ρ' Z' H' J, Fr ρ Z H ρ' Z' H' → RelS K T ρ' Z' st' H' → Src K T ρ' Z' H' J gd ds → R J H'
variable {ρ : List Addr} {Z : Addr → Prop} {st : Store} {H : Hp}
theorem src_list {a : Addr} {vs : List V} {ds : List D} (h : H a = some (.lst vs) ∧ ¬ Z a) (r : Reps X.K ρ Z H ds vs) : Src X.K T ρ Z H (Itl X.K a) none ds := by
  intro ρ' Z' st' H' f rs _
  have h1 : H' a = some (.lst vs) := f.keep a _ h.1 h.2 (fun _ z => nomatch z)
  have q : SqL X.K H' a vs := .inl (.inl h1)
  have r' := Reps.mz f _ _ r
  refine ⟨fun i hi => ⟨vs, vs[i]'(by rw [← r.len]; exact hi), q, by simp⟩, ⟨vs, q, by rw [r.len]; exact Nat.le_refl _⟩, fun i x H'' hi hy => ?_⟩
  obtain ⟨rfl, hx⟩ := hy
  obtain ⟨d, h2, h3⟩ := r'.get' (hx vs q)
  exact ⟨d, h2, .refl, rs, h3⟩
theorem src_loc {n : Nat} {a : Addr} {ds : List D} (hn : ρ[n]? = some a) : Src X.K T ρ Z H (Itl X.K a) (some (n, ds)) ds := by
  intro ρ' Z' st' H' f rs hg
  obtain ⟨r0, e0⟩ := f.pre
  have hn' : ρ'[n]? = some a := by rw [e0, List.getElem?_append_left (List.getElem?_eq_some_iff.mp hn).1]; exact hn
  simp only [guardOk] at hg
  split at hg
  · rename_i es he
    have e := D.beqL_eq _ _ hg
    subst e
    obtain ⟨vs, h1, h2⟩ := rs.obj n a _ hn' he
    have q : SqL X.K H' a vs := .inl (.inl h1)
    refine ⟨fun i hi => ⟨vs, vs[i]'(by rw [← h2.len]; exact hi), q, by simp⟩, ⟨vs, q, by rw [h2.len]; exact Nat.le_refl _⟩, fun i x H'' hi hy => ?_⟩
    obtain ⟨rfl, hx⟩ := hy
    obtain ⟨d, h3, h4⟩ := h2.get' (hx vs q)
    exact ⟨d, h3, .refl, rs, h4⟩
  · cases hg
theorem sqT_at {ρ' : List Addr} {Z' : Addr → Prop} {H' : Hp} {a : Addr} {vs : List V} (f : Fz ρ Z H ρ' Z' H') (h : TupAt X.K Z H a vs) : SqT X.K H' a vs := by
  rcases h with h | h
  · exact .inl (.inl (f.keep a _ h.1 h.2 (fun _ z => nomatch z)))
  · exact .inr h
theorem src_tup {a : Addr} {vs : List V} {ds : List D} (h : TupAt X.K Z H a vs) (r : Reps X.K ρ Z H ds vs) : Src X.K T ρ Z H (Itt X.K a) none ds := by
  intro ρ' Z' st' H' f rs _
  have q : SqT X.K H' a vs := sqT_at f h
  have r' := Reps.mz f _ _ r
  refine ⟨fun i hi => ⟨vs, vs[i]'(by rw [← r.len]; exact hi), q, by simp⟩, ⟨vs, q, by rw [r.len]; exact Nat.le_refl _⟩, fun i x H'' hi hy => ?_⟩
  obtain ⟨rfl, hx⟩ := hy
  obtain ⟨d, h2, h3⟩ := r'.get' (hx vs q)
  exact ⟨d, h2, .refl, rs, h3⟩
theorem src_range {lo : Int} {n : Nat} : Src X.K T ρ Z H (Itr lo n) none ((List.range n).map fun (i : Nat) => D.int (lo + i)) := by
  intro ρ' Z' st' H' f rs _
  rw [List.length_map, List.length_range]
  refine ⟨fun i hi => hi, Nat.le_refl _, fun i x H'' hi hy => ?_⟩
  obtain ⟨rfl, rfl⟩ := hy
  exact ⟨.int (lo + i), by simp [hi], .refl, rs, by simp [Rep]⟩
theorem src_str {z : Str} (hz : PySem.PyData.strOk z = true) : Src X.K T ρ Z H (Its z) none (signsD z) := by
  intro ρ' Z' st' H' f rs _
  have hl : (signsD z).length = z.cps.size := by unfold signsD; simp
  rw [hl]
  refine ⟨fun i hi => hi, Nat.le_refl _, fun i x H'' hi hy => ?_⟩
  obtain ⟨rfl, c, hc, rfl⟩ := hy
  refine ⟨.str ⟨#[c]⟩, ?_, .refl, rs, ?_⟩
  · unfold signsD
    rw [List.getElem?_map]
    simp [hc]
  · simp only [Rep]
    exact ⟨trivial, strOk_sign hz (by simpa using Array.mem_of_getElem? hc)⟩
variable {e e2 tg : Expr} {a b : _root_.Q.X} {pos p : Pos}
theorem s_seq (ha : PE X e (tEv X.K T C a)) : PI X tg e (tIt X.K T C (.seq a)) := ((pi_list ha).or (pi_tup ha)).imp fun σ H R h => by
  obtain ⟨ρ, Z, st, env, gd, ds, st', rs, re, h, k⟩ := h
  simp only [evIt, Option.bind_eq_some_iff] at h
  obtain ⟨⟨x, st1⟩, h1, h2⟩ := h
  cases x <;> simp only [srcOf] at h2
  case tup es =>
    cases h2
    refine .inr (tEv.go rs re h1 fun ρ' Z' H' v f r' e' q => ?_)
    simp only [Rep] at q
    obtain ⟨a, vs, rfl, a1, a2⟩ := q
    exact ⟨a, rfl, ⟨vs, a1.sq⟩, k _ _ _ _ f r' (src_tup a1 a2)⟩
  case lst es =>
    cases h2
    refine .inl (tEv.go rs re h1 fun ρ' Z' H' v f r' e' q => ?_)
    simp only [Rep] at q
    obtain ⟨a, vs, rfl, a1, a2⟩ := q
    exact ⟨a, rfl, ⟨vs, .inl (.inl a1.1)⟩, k _ _ _ _ f r' (src_list a1 a2)⟩
  case loc n =>
    split at h2
    · rename_i es he
      cases h2
      refine .inl (tEv.go rs re h1 fun ρ' Z' H' v f r' e' q => ?_)
      obtain ⟨a, vs, rfl, a0, a1, a2⟩ := loc_lst r' q he
      exact ⟨a, rfl, ⟨vs, .inl (.inl a1)⟩, k _ _ _ _ f r' (src_loc a0)⟩
    · cases h2
  all_goals cases h2
theorem iv62 {j : Int} (h : lim62 j = true) : -(2 ^ 62) ≤ j ∧ j < 2 ^ 62 := of_decide_eq_true h
theorem s_rng1 {p2 : Pos} (G : Good g C T kk L X) (hg : glB L.sc "range" = true) (hs : starP e = false) (ha : PE X e (tEv X.K T C a)) : PI X tg (.Call (.Name "range" p) [e] [] pos) (tIt X.K T C (.rng1 a)) := by
  refine (pi_range1 (glB_ok G hg).1 (G.blt _ (by decide)) (pa_cons ha pa_nil (star_plain hs)) (by rw [star_plain hs]; rfl)).imp fun σ H R h => ?_
  obtain ⟨ρ, Z, st, env, gd, ds, st', rs, re, h, k⟩ := h
  simp only [evIt, Option.bind_eq_some_iff] at h
  obtain ⟨⟨x, st1⟩, h1, h2⟩ := h
  cases x <;> simp only at h2
  case int j =>
    split at h2
    · rename_i hj
      cases h2
      refine tEv.go rs re h1 fun ρ' Z' H' v f r' e' q => ?_
      simp only [Rep] at q
      subst q
      refine ⟨j, rfl, (iv62 hj).1, (iv62 hj).2, k _ _ _ _ f r' ?_⟩
      have q := src_range (X := X) (T := T) (ρ := ρ') (Z := Z') (H := H') (lo := 0) (n := j.toNat)
      unfold rangeD
      rw [Int.sub_zero]
      exact q
    · cases h2
  all_goals cases h2
theorem s_rng2 {p2 : Pos} (G : Good g C T kk L X) (hg : glB L.sc "range" = true) (hs : starP e = false) (hs2 : starP e2 = false) (ha : PE X e (tEv X.K T C a)) (hb : PE X e2 (tEv X.K T C b)) :
    PI X tg (.Call (.Name "range" p) [e, e2] [] pos) (tIt X.K T C (.rng2 a b)) := by
  refine (pi_range2 (glB_ok G hg).1 (G.blt _ (by decide)) (pa_cons ha (pa_cons hb pa_nil (star_plain hs2)) (star_plain hs)) (by rw [star_plain hs, star_plain hs2]; rfl) (by rw [star_plain hs2]; rfl)).imp fun σ H R h => ?_
  obtain ⟨ρ, Z, st, env, gd, ds, st', rs, re, h, k⟩ := h
  simp only [evIt, Option.bind_eq_some_iff] at h
  obtain ⟨⟨x, st1⟩, h1, ⟨y, st2⟩, h2, h3⟩ := h
  cases x <;> cases y <;> simp only at h3
  case int.int i j =>
    split at h3
    · rename_i hj
      simp only [Bool.and_eq_true] at hj
      cases h3
      refine tEv.go rs re h1 fun ρ' Z' H' v f r' e' q => tEv.go r' e' h2 fun ρ2 Z2 H2 u f2 r2 e2 q2 => ?_
      simp only [Rep] at q q2
      subst q q2
      exact ⟨i, j, rfl, ⟨(iv62 hj.1).1, (iv62 hj.1).2, (iv62 hj.2).1, (iv62 hj.2).2⟩, k _ _ _ _ (f.trans f2) r2 src_range⟩
    · cases h3
  all_goals cases h3
theorem s_chars (ha : PE X e (tEv X.K T C a)) : PI X tg e (tIt X.K T C (.chars a)) := (pi_str ha).imp fun σ H R h => by
  obtain ⟨ρ, Z, st, env, gd, ds, st', rs, re, h, k⟩ := h
  simp only [evIt, Option.bind_eq_some_iff] at h
  obtain ⟨⟨x, st1⟩, h1, h2⟩ := h
  cases x <;> simp only at h2
  case str z =>
    cases h2
    refine tEv.go rs re h1 fun ρ' Z' H' v f r' e' q => ?_
    simp only [Rep] at q
    obtain ⟨rfl, q⟩ := q
    exact ⟨z, rfl, k _ _ _ _ f r' (src_str q)⟩
  all_goals cases h2
end
end Q

/-! QSnd6: comprehensions. -/
namespace Q
open PySem PySem.Spec PyProof.Rows L2

section
variable {K : PySem.W.Frag} {T : List (Addr × Str)} {ρ ρ1 : List Addr} {Z Z1 : Addr → Prop} {H H1 : Hp} {st : Store} {D0 : Addr}
/-- the list that a comprehension fills: forbidden, no place -/
theorem fz_fill {o : HO} (hz : Z D0) (hf : ∀ o u, H D0 ≠ some (.frz o u)) : Fz ρ Z H ρ Z (upd H D0 o) :=
  ⟨⟨[], by simp⟩, fun a o' h hn _ => by rw [upd_ne (fun (e : a = D0) => hn (e ▸ hz))]; exact h, fun _ _ _ z => z, fun a o' u h => by rw [upd_ne (fun (e : a = D0) => hf o' u (e ▸ h))]; exact h⟩
theorem RelS.fill {vs us : List V} (r : RelS K T ρ Z st H) (hz : Z D0) (hn : D0 ∉ ρ) (hD : H D0 = some (.lst vs)) : RelS K T ρ Z st (upd H D0 (.lst us)) := by
  have f : Fz ρ Z H ρ Z (upd H D0 (.lst us)) := fz_fill hz fun o u e => by rw [hD] at e; cases e
  have k : ∀ a o', H a = some o' → a ≠ D0 → upd H D0 (.lst us) a = some o' := fun a o' h e => by rw [upd_ne e]; exact h
  refine ⟨r.len, r.nd, r.sub, fun a h => ?_, fun n a so h1 h2 => ?_, fun p hp => ?_⟩
  · by_cases e : a = D0
    · subst e; exact ⟨_, upd_same⟩
    · obtain ⟨o', h'⟩ := r.dom a h
      exact ⟨o', k a o' h' e⟩
  · have e : a ≠ D0 := fun e => hn (e ▸ List.mem_of_getElem? h1)
    have q := r.obj n a so h1 h2
    cases so with
    | lst ds => obtain ⟨vs, e1, q⟩ := q; exact ⟨vs, k _ _ e1 e, Reps.mz f _ _ q⟩
    | dct kvs => obtain ⟨vs, e1, q⟩ := q; exact ⟨vs, k _ _ e1 e, q.mz f⟩
    | lck kvs => obtain ⟨ob, vs, e1, q⟩ := q; exact ⟨ob, vs, k _ _ e1 e, q.mz f⟩
  · obtain ⟨ps, h1, h2, h3⟩ := r.tabs p hp
    refine ⟨ps, k _ _ h1 (fun e => by rw [e, hD] at h1; cases h1), h2, fun pos cv hc => ?_⟩
    obtain ⟨c, e1, e2⟩ := h3 pos cv hc
    exact ⟨c, e1, k _ _ e2 (fun e => by
      rw [e, hD] at e2
      have := Option.some.inj e2
      simp [LamX.CodeO] at this)⟩
theorem RelS.anti {Z' : Addr → Prop} (r : RelS K T ρ Z st H) (hz : ∀ a, Z' a → Z a) (sub : ∀ a ∈ ρ, Z' a) : RelS K T ρ Z' st H := by
  refine ⟨r.len, r.nd, sub, fun a h => r.dom a (hz a h), fun n a so h1 h2 => ?_, r.tabs⟩
  have q := r.obj n a so h1 h2
  cases so with
  | lst ds => obtain ⟨vs, e1, q⟩ := q; exact ⟨vs, e1, Reps.anti hz _ _ q⟩
  | dct kvs => obtain ⟨vs, e1, q⟩ := q; exact ⟨vs, e1, q.anti hz⟩
  | lck kvs => obtain ⟨ob, vs, e1, q⟩ := q; exact ⟨ob, vs, e1, q.anti hz⟩
/-- how things stand within a comprehension: from (ρ1, Z1, H1), with a walk begun at (ρs, Zs, Hs), behind acc's items; D0 the new list -/
def Fill (K : PySem.W.Frag) (T : List (Addr × Str)) (ρ1 : List Addr) (Z1 : Addr → Prop) (H1 : Hp) (ρs : List Addr) (Zs : Addr → Prop) (Hs : Hp) (D0 : Addr) (acc : List D) (st : Store) (H : Hp) : Prop :=
  ∃ ρ Z vs, Fr ρ1 Z1 H1 ρ Z H ∧ Fz ρs Zs Hs ρ Z H ∧ (∀ c o, Hs c = some o → ∃ o', H c = some o') ∧ RelS K T ρ Z st H ∧ D0 ∉ ρ ∧ Z D0 ∧ H D0 = some (.lst vs) ∧ Reps K ρ Z H acc vs
theorem Fill.start (r : RelS K T ρ1 Z1 st H1) (hD : H1 D0 = none) : Fill K T ρ1 Z1 H1 ρ1 Z1 H1 D0 [] st (upd H1 D0 (.lst [])) := by
  have k : ∀ a o', H1 a = some o' → upd H1 D0 (.lst []) a = some o' := fun a o' h => by rw [upd_ne (ne_of_none h hD)]; exact h
  have nD : D0 ∉ ρ1 := fun h => r.free hD (r.sub _ h)
  have fz : Fz ρ1 Z1 H1 ρ1 (fun a => Z1 a ∨ a = D0) (upd H1 D0 (.lst [])) := ⟨⟨[], by simp⟩, fun a o h _ _ => k a o h, fun a o h z => by
    rcases z with z | z
    · exact z
    · exact absurd z (ne_of_none h hD), fun a o u h => k a _ h⟩
  refine ⟨ρ1, fun a => Z1 a ∨ a = D0, [], ⟨⟨[], by simp⟩, fun a o h _ _ => k a o h, fun a o h => ⟨fz.ex a o h, .inl⟩, fun a o h => ⟨o, k a o h⟩, fun a o u h => k a _ h, fun a h => .inl h⟩, fz, fun a o h => ⟨o, k a o h⟩, ?_, nD, .inr rfl, upd_same, .nil⟩
  refine ⟨r.len, r.nd, fun a h => .inl (r.sub a h), fun a h => ?_, fun n a so h1 h2 => ?_, r.tabs_of fun a o h _ => k a o h⟩
  · rcases h with h | rfl
    · obtain ⟨o', h'⟩ := r.dom a h
      exact ⟨o', k a o' h'⟩
    · exact ⟨_, upd_same⟩
  · have q := r.obj n a so h1 h2
    cases so with
    | lst ds => obtain ⟨vs, e1, q⟩ := q; exact ⟨vs, k _ _ e1, Reps.mz fz _ _ q⟩
    | dct kvs => obtain ⟨vs, e1, q⟩ := q; exact ⟨vs, k _ _ e1, q.mz fz⟩
    | lck kvs => obtain ⟨ob, vs, e1, q⟩ := q; exact ⟨ob, vs, k _ _ e1, q.mz fz⟩
/-- one more item -/
theorem fill_add {ρs : List Addr} {Zs : Addr → Prop} {Hs : Hp} {vs : List V} {acc : List D} {d : D} {v : V} (f : Fr ρ1 Z1 H1 ρ Z H) (fs : Fz ρs Zs Hs ρ Z H) (dm : ∀ c o, Hs c = some o → ∃ o', H c = some o') (hD1 : H1 D0 = none) (r : RelS K T ρ Z st H) (hn : D0 ∉ ρ) (hz : Z D0) (hD : H D0 = some (.lst vs)) (q : Reps K ρ Z H acc vs) (qd : Rep K ρ Z H d v) :
    Fill K T ρ1 Z1 H1 ρs Zs Hs D0 (acc ++ [d]) st (upd H D0 (.lst (vs ++ [v]))) := by
  have fz : Fz ρ Z H ρ Z (upd H D0 (.lst (vs ++ [v]))) := fz_fill hz fun o u e => by rw [hD] at e; cases e
  have k : ∀ a o', H a = some o' → a ≠ D0 → upd H D0 (.lst (vs ++ [v])) a = some o' := fun a o' h e => by rw [upd_ne e]; exact h
  refine ⟨ρ, Z, vs ++ [v], ⟨f.pre, fun a o h hr ht => k _ _ (f.keep a o h hr ht) (ne_of_none h hD1), f.ex, fun a o h => ?_, fun a o u h => k _ _ (f.frz a o u h) (ne_of_none h hD1), f.new⟩, fs.trans dm fz, fun a o h => ?_, r.fill hz hn hD, hn, hz, upd_same, Reps.mz fz _ _ (q.append (.cons qd .nil))⟩
  · obtain ⟨o', h'⟩ := f.dom a o h
    exact ⟨o', k _ _ h' (ne_of_none h hD1)⟩
  · obtain ⟨o', h'⟩ := dm a o h
    by_cases e : a = D0
    · subst e; exact ⟨_, upd_same⟩
    · exact ⟨o', k _ _ h' e⟩
/-- the list is done: it is data -/
theorem Fill.done {ρs : List Addr} {Zs : Addr → Prop} {Hs : Hp} {ds : List D} {Q : VK} {st0 : Store} (h : Fill K T ρ1 Z1 H1 ρs Zs Hs D0 ds st H) (r1 : RelS K T ρ1 Z1 st0 H1) (hD1 : H1 D0 = none)
    (k : ∀ ρ' Z' H' v, Fr ρ1 Z1 H1 ρ' Z' H' → RelS K T ρ' Z' st H' → Rep K ρ' Z' H' (.lst ds) v → Q v H') : Q (.ref D0) H := by
  obtain ⟨ρ, Z, vs, f, _, _, r, hn, hz, hD, q⟩ := h
  have sub : ∀ a ∈ ρ, Z a ∧ a ≠ D0 := fun a ha => ⟨r.sub a ha, fun e => hn (e ▸ ha)⟩
  refine k ρ (fun a => Z a ∧ a ≠ D0) H _ ⟨f.pre, f.keep, fun a o h => ⟨fun z => (f.ex a o h).mp z.1, fun z => ⟨(f.ex a o h).mpr z, ne_of_none h hD1⟩⟩, f.dom, f.frz, f.new⟩ (r.anti (fun a z => z.1) sub) ?_
  simp only [Rep]
  exact ⟨D0, vs, rfl, ⟨hD, fun z => z.2 rfl⟩, Reps.anti (fun a z => z.1) _ _ q⟩
end

section
variable {K : PySem.W.Frag} {T : List (Addr × Str)} {ρ1 ρs : List Addr} {Z1 Zs : Addr → Prop} {H1 Hs : Hp} {D0 : Addr} {J : L2.It} {gd : Option (Nat × List D)} {ds : List D}
/-- the loop of one clause -/
theorem walk_loop {one : D → Store → Option (List D × Store)} {body : V → Hp → (Hp → Prop) → Prop} {Fin : Hp → Prop} {acc0 zs0 : List D} {st0 stF : Store} {H0 : Hp} (src : Src K T ρs Zs Hs J gd ds)
    (hb : ∀ {acc ys : List D} {st st' : Store} {H' : Hp} {x : V} {d : D} {ρ : List Addr} {Z : Addr → Prop} {uv : List V} {Nx : Hp → Prop}, Fr ρ1 Z1 H1 ρ Z H' → Fz ρs Zs Hs ρ Z H' → (∀ c o, Hs c = some o → ∃ o', H' c = some o') → RelS K T ρ Z st H' → D0 ∉ ρ → Z D0 → H' D0 = some (.lst uv) →
      Reps K ρ Z H' acc uv → Rep K ρ Z H' d x → one d st = some (ys, st') → (acc ++ ys).length ≤ sizeLine → (∀ H'', Fill K T ρ1 Z1 H1 ρs Zs Hs D0 (acc ++ ys) st' H'' → Nx H'') → body x H' Nx)
    (hl : compLoop gd one ds st0 = some (zs0, stF)) (h0 : Fill K T ρ1 Z1 H1 ρs Zs Hs D0 acc0 st0 H0) (hz : (acc0 ++ zs0).length ≤ sizeLine) (fin : ∀ H', Fill K T ρ1 Z1 H1 ρs Zs Hs D0 (acc0 ++ zs0) stF H' → Fin H') :
    ∃ W : Nat → Nat → Hp → Prop, (∃ m, W 0 m H0) ∧ ∀ i m H, W i m H → (J.stop i H ∧ Fin H) ∨ (J.go i H ∧ ∃ Nx : Hp → Prop, (∀ H', Nx H' → ∃ m', m' < m ∧ W (i + 1) m' H') ∧ ∀ x H', J.yld i H x H' → body x H' Nx) := by
  refine ⟨fun i m H => ∃ acc st zs, Fill K T ρ1 Z1 H1 ρs Zs Hs D0 acc st H ∧ compLoop gd one (ds.drop i) st = some (zs, stF) ∧ acc ++ zs = acc0 ++ zs0 ∧ m = ds.length - i ∧ i ≤ ds.length,
    ⟨ds.length, acc0, st0, zs0, h0, hl, rfl, rfl, Nat.zero_le _⟩, ?_⟩
  rintro i m H ⟨acc, st, zs, ⟨ρ, Z, uv, f, fs, dm, rs, hn, hzD, hD, q⟩, hloop, htot, rfl, hi⟩
  by_cases hlt : i < ds.length
  · right
    rw [List.drop_eq_getElem_cons hlt] at hloop
    unfold compLoop at hloop
    split at hloop
    · rename_i hg
      simp only [Option.bind_eq_some_iff] at hloop
      obtain ⟨⟨ys, st1⟩, h1, ⟨zs', st2⟩, h2, h3⟩ := hloop
      cases h3
      obtain ⟨s1, _, s3⟩ := src ρ Z st H fs rs hg
      refine ⟨s1 i hlt, fun H' => Fill K T ρ1 Z1 H1 ρs Zs Hs D0 (acc ++ ys) st1 H', fun H' hF => ⟨ds.length - (i + 1), by omega, acc ++ ys, st1, zs', hF, h2, by rw [List.append_assoc]; exact htot, rfl, hlt⟩, fun x H' hy => ?_⟩
      obtain ⟨d, e1, f2, r2, qd⟩ := s3 i x H' hlt hy
      have e2 : d = ds[i] := by rw [List.getElem?_eq_getElem hlt] at e1; exact (Option.some.inj e1).symm
      subst e2
      have fz2 := f2.fz rs.sub
      refine hb (f.trans f2) (fs.trans dm fz2) (fun c o h => ?_) r2 hn hzD (f2.keep D0 _ hD hn (fun _ z => nomatch z)) (Reps.mono rs.sub f2 _ _ q) qd h1 ?_ fun H'' h => h
      · obtain ⟨o', h'⟩ := dm c o h
        exact f2.dom c o' h'
      · have : (acc ++ ys).length ≤ (acc0 ++ zs0).length := by rw [← htot]; simp only [List.length_append]; omega
        omega
    · cases hloop
  · left
    have e : i = ds.length := by omega
    subst e
    rw [List.drop_length] at hloop
    unfold compLoop at hloop
    split at hloop
    · rename_i hg
      cases hloop
      refine ⟨(src ρ Z _ H fs rs hg).2.1, fin _ ?_⟩
      rw [← htot, List.append_nil]
      exact ⟨ρ, Z, uv, f, fs, dm, rs, hn, hzD, hD, q⟩
    · cases hloop
end

section
variable {g : Sig} {C : Ctx} {T : List (Addr × Str)} {kk : Nat} {L : Lv} {X : Cx} {own : List (Str × Nat)} {t t1 : Tt} {it it1 : Q.It} {c c1 e : _root_.Q.X} {tg tg1 iter iter1 elt : Expr} {ifs ifs1 : List Expr} {scope : Scope} {pos spos : Pos} {vs1 : List Nat}
/-- binding within a comprehension -/
theorem bd_go {ρ : List Addr} {Z : Addr → Prop} {H : Hp} {env env1 : Env} {σ0 : L2.St} {d : D} {x : V} {vs : List Nat} {st : Store} {Q : L2.St → Hp → Prop} (rs : RelS X.K T ρ Z st H) (re : RelE X.K ρ Z H env σ0) (hs : ∀ i ∈ tSlots t, i ∈ vs) (qd : Rep X.K ρ Z H d x) (hb : bindT t d (wipeE env vs) = some env1)
    (k : ∀ σ2, RelE X.K ρ Z H env1 σ2 → wipe σ2 vs = wipe σ0 vs → Q σ2 H) : tBd X.K t x (wipe σ0 vs) H Q :=
  ⟨ρ, Z, wipeE env vs, d, env1, rs.sub, wipe_rel re vs, qd, hb, fun σ2 r2 l2 s2 => k σ2 r2 (wipe_eq hs l2 s2)⟩
/-- an element computed and added -/
theorem elt_go {σ2 : L2.St} {ρ ρ1 ρs : List Addr} {Z Z1 Zs : Addr → Prop} {H H1 Hs : Hp} {D0 : Addr} {env1 : Env} {acc ys : List D} {uv : List V} {st st' : Store} {Nx : Hp → Prop}
    (f : Fr ρ1 Z1 H1 ρ Z H) (fs : Fz ρs Zs Hs ρ Z H) (dm : ∀ c o, Hs c = some o → ∃ o', H c = some o') (hD1 : H1 D0 = none) (rs : RelS X.K T ρ Z st H) (re : RelE X.K ρ Z H env1 σ2) (hn : D0 ∉ ρ) (hz : Z D0) (hD : H D0 = some (.lst uv)) (qa : Reps X.K ρ Z H acc uv)
    (he : (ev C e env1 st).map (fun q => ([q.1], q.2)) = some (ys, st')) (hl : (acc ++ ys).length ≤ sizeLine) (k : ∀ H'', Fill X.K T ρ1 Z1 H1 ρs Zs Hs D0 (acc ++ ys) st' H'' → Nx H'') :
    tEv X.K T C e σ2 H fun y H4 => ∃ acc, H4 D0 = some (.lst acc) ∧ acc.length < sizeLine ∧ Nx (upd H4 D0 (.lst (acc ++ [y]))) := by
  obtain ⟨⟨d, st2⟩, h1, h2⟩ := Option.map_eq_some_iff.mp he
  cases h2
  refine tEv.go rs re h1 fun ρ2 Z2 H2 v f2 r2 e2 q2 => ?_
  have fz2 := f2.fz rs.sub
  have hn2 : D0 ∉ ρ2 := fun z => by
    rcases f2.new D0 z with z | z
    · exact hn z
    · rw [hD] at z; cases z
  have hD2 := f2.keep D0 _ hD hn (fun _ z => nomatch z)
  refine ⟨uv, hD2, ?_, k _ (fill_add (f.trans f2) (fs.trans dm fz2) (fun c o h => ?_) hD1 r2 hn2 ((f2.ex D0 _ hD).mpr hz) hD2 (Reps.mono rs.sub f2 _ _ qa) q2)⟩
  · rw [← qa.len]
    simp only [List.length_append, List.length_singleton] at hl
    omega
  · obtain ⟨o', h'⟩ := dm c o h
    exact f2.dom c o' h'
theorem i_comp (hs : ∀ i ∈ tSlots t, i ∈ own.map (·.2)) {σ : L2.St} {H : Hp} {Q : VK} (h : tEv X.K T C (.comp own t it c e) σ H Q) :
    tLc (tIt X.K T C it) (tBd X.K t) (tB (tEv X.K T C c)) (tEv X.K T C e) (own.map (·.2)) σ H Q := by
  obtain ⟨ρ0, Z0, st, env, d, st', rs, re, h, k⟩ := h
  simp only [ev, Option.bind_eq_some_iff] at h
  obtain ⟨⟨gd, ds, st1⟩, h1, ⟨zs, st2⟩, h2, h3⟩ := h
  split at h3
  · rename_i hlen
    cases h3
    refine ⟨ρ0, Z0, st, env, gd, ds, st1, rs, re, h1, fun ρ1 Z1 H1 J f1 r1 src => fun D0 hD => ?_⟩
    have re1 := re.mono rs.sub f1
    refine walk_loop (acc0 := []) (zs0 := zs) (body := fun x H' Nx => tBd X.K t x (wipe σ (own.map (·.2))) H' fun σ2 H2 => wipe σ2 (own.map (·.2)) = wipe σ (own.map (·.2)) ∧ tB (tEv X.K T C c) σ2 H2 fun b H3 =>
      if b = true then tEv X.K T C e σ2 H3 fun y H4 => ∃ acc, H4 D0 = some (.lst acc) ∧ acc.length < sizeLine ∧ Nx (upd H4 D0 (.lst (acc ++ [y]))) else Nx H3) src ?_ h2 (Fill.start r1 hD) hlen fun H' hF => hF.done r1 hD fun ρ' Z' H'' v f r q => k _ _ _ _ (f1.trans f) r q
    intro acc ys st3 st4 H' x d ρ Z uv Nx f fs dm rs' hn hz hD' qa qd ho hl hk
    simp only [compOne, Option.bind_eq_some_iff] at ho
    obtain ⟨env1, h4, ⟨b, st5⟩, h5, h6⟩ := ho
    refine bd_go rs' (re1.mz fs) hs qd h4 fun σ2 re2 hw => ⟨hw, ?_⟩
    refine tst rs' re2 h5 fun ρ2 Z2 H2 f2 r2 e2 => ?_
    have fz2 := f2.fz rs'.sub
    have hn2 : D0 ∉ ρ2 := fun z => by
      rcases f2.new D0 z with z | z
      · exact hn z
      · rw [hD'] at z; cases z
    have hD2 := f2.keep D0 _ hD' hn (fun _ z => nomatch z)
    have dm2 : ∀ c o, H1 c = some o → ∃ o', H2 c = some o' := fun c o h => by
      obtain ⟨o', h'⟩ := dm c o h
      exact f2.dom c o' h'
    have qa2 := Reps.mono rs'.sub f2 _ _ qa
    cases b with
    | true =>
      simp only [if_true] at h6 ⊢
      exact elt_go (f.trans f2) (fs.trans dm fz2) dm2 hD r2 e2 hn2 ((f2.ex D0 _ hD').mpr hz) hD2 qa2 h6 hl hk
    | false =>
      simp only [Bool.false_eq_true, if_false] at h6 ⊢
      cases h6
      refine hk _ ?_
      rw [List.append_nil]
      exact ⟨ρ2, Z2, uv, f.trans f2, fs.trans dm fz2, dm2, r2, hn2, (f2.ex D0 _ hD').mpr hz, hD2, qa2⟩
  · cases h3
theorem s_comp (G : Good g C T kk L X) (hi : PI X tg iter (tIt X.K T C it)) (ok : BlkOk X.N X.env.scope scope own) (hsl : ∀ i ∈ tSlots t, i ∈ own.map (·.2))
    (hg : ∀ (s : Shared) (H : Hp) (C' : Addr) (cl : List (Str × Addr)) (fp : List Addr), PG (X.blk s H scope (compEnvC scope cl C' X.env) fp) tg (tBd X.K t))
    (ht : ∀ (s : Shared) (H : Hp) (C' : Addr) (cl : List (Str × Addr)) (fp : List Addr), PTs (X.blk s H scope (compEnvC scope cl C' X.env) fp) ifs (tB (tEv X.K T C c)))
    (he : ∀ (s : Shared) (H : Hp) (C' : Addr) (cl : List (Str × Addr)) (fp : List Addr), PE (X.blk s H scope (compEnvC scope cl C' X.env) fp) elt (tEv X.K T C e)) (hs : ∀ x, foldedSetIterable iter X.env x = pure x) :
    PE X (.ListComp elt [⟨tg, iter, ifs, 0⟩] scope pos) (tEv X.K T C (.comp own t it c e)) := (pe_lc G.calm (by rw [G.hN]; exact G.nd) hi ok hg ht he hs).imp fun σ H Q h => i_comp hsl h
theorem i_comp2 (hs : ∀ i ∈ tSlots t, i ∈ own.map (·.2)) (hs1 : ∀ i ∈ tSlots t1, i ∈ vs1) {σ : L2.St} {H : Hp} {Q : VK} (h : tEv X.K T C (.comp2 own t it c vs1 t1 it1 c1 e) σ H Q) :
    tLc2 (tIt X.K T C it) (tBd X.K t) (tB (tEv X.K T C c)) (tIt X.K T C it1) (tBd X.K t1) (tB (tEv X.K T C c1)) (tEv X.K T C e) (own.map (·.2)) vs1 σ H Q := by
  obtain ⟨ρ0, Z0, st, env, d, st', rs, re, h, k⟩ := h
  simp only [ev, Option.bind_eq_some_iff] at h
  obtain ⟨⟨gd, ds, st1⟩, h1, ⟨zs, st2⟩, h2, h3⟩ := h
  split at h3
  · rename_i hlen
    cases h3
    refine ⟨ρ0, Z0, st, env, gd, ds, st1, rs, re, h1, fun ρ1 Z1 H1 J f1 r1 src => fun D0 hD => ?_⟩
    have re1 := re.mono rs.sub f1
    refine walk_loop (acc0 := []) (zs0 := zs) (body := fun x H' Nx => tBd X.K t x (wipe σ (own.map (·.2))) H' fun σ2 H2 => wipe σ2 (own.map (·.2)) = wipe σ (own.map (·.2)) ∧ tB (tEv X.K T C c) σ2 H2 fun b H3 =>
      if b = true then tIt X.K T C it1 σ2 H3 fun J1 H4 => ∃ W1 : Nat → Nat → Hp → Prop, (∃ m, W1 0 m H4) ∧ ∀ j k H, W1 j k H →
      (J1.stop j H ∧ Nx H) ∨ (J1.go j H ∧ ∃ Nx1 : Hp → Prop, (∀ H', Nx1 H' → ∃ k', k' < k ∧ W1 (j + 1) k' H') ∧ ∀ x H', J1.yld j H x H' → tBd X.K t1 x (wipe σ2 vs1) H' fun σ3 H5 => wipe σ3 vs1 = wipe σ2 vs1 ∧ tB (tEv X.K T C c1) σ3 H5 fun b H6 =>
        if b = true then tEv X.K T C e σ3 H6 fun y H7 => ∃ acc, H7 D0 = some (.lst acc) ∧ acc.length < sizeLine ∧ Nx1 (upd H7 D0 (.lst (acc ++ [y]))) else Nx1 H6)
      else Nx H3) src ?_ h2 (Fill.start r1 hD) hlen fun H' hF => hF.done r1 hD fun ρ' Z' H'' v f r q => k _ _ _ _ (f1.trans f) r q
    intro acc ys st3 st4 H' x d ρ Z uv Nx f fs dm rs' hn hz hD' qa qd ho hl hk
    simp only [compOne, Option.bind_eq_some_iff] at ho
    obtain ⟨env1, h4, ⟨b, st5⟩, h5, h6⟩ := ho
    refine bd_go rs' (re1.mz fs) hs qd h4 fun σ2 re2 hw => ⟨hw, ?_⟩
    refine tst rs' re2 h5 fun ρ2 Z2 H2 f2 r2 e2 => ?_
    have hn_of : ∀ {ρ2 : List Addr} {Z2 : Addr → Prop} {H2 : Hp}, Fr ρ Z H' ρ2 Z2 H2 → D0 ∉ ρ2 := fun f2 z => by
      rcases f2.new D0 z with z | z
      · exact hn z
      · rw [hD'] at z; cases z
    have dm_of : ∀ {ρ2 : List Addr} {Z2 : Addr → Prop} {H2 : Hp}, Fr ρ Z H' ρ2 Z2 H2 → ∀ c o, H1 c = some o → ∃ o', H2 c = some o' := fun f2 c o h => by
      obtain ⟨o', h'⟩ := dm c o h
      exact f2.dom c o' h'
    cases b with
    | true =>
      simp only [if_true, Option.bind_eq_some_iff] at h6 ⊢
      obtain ⟨⟨gd1, ds1, st6⟩, h7, h8⟩ := h6
      refine ⟨ρ2, Z2, st5, env1, gd1, ds1, st6, r2, e2, h7, fun ρ4 Z4 H4 J1 f4 r4 src1 => ?_⟩
      have f24 := f2.trans f4
      have re4 := e2.mono r2.sub f4
      have hD4 := f24.keep D0 _ hD' hn (fun _ z => nomatch z)
      have fz4 := fs.trans dm (f24.fz rs'.sub)
      refine walk_loop (ρ1 := ρ1) (Z1 := Z1) (H1 := H1) (D0 := D0) (acc0 := acc) (zs0 := ys) (body := fun x H' Nx1 => tBd X.K t1 x (wipe σ2 vs1) H' fun σ3 H5 => wipe σ3 vs1 = wipe σ2 vs1 ∧ tB (tEv X.K T C c1) σ3 H5 fun b H6 =>
        if b = true then tEv X.K T C e σ3 H6 fun y H7 => ∃ acc, H7 D0 = some (.lst acc) ∧ acc.length < sizeLine ∧ Nx1 (upd H7 D0 (.lst (acc ++ [y]))) else Nx1 H6) src1 ?_ h8
        ⟨ρ4, Z4, uv, f.trans f24, .refl, fun c o h => ⟨o, h⟩, r4, hn_of f24, (f24.ex D0 _ hD').mpr hz, hD4, Reps.mono rs'.sub f24 _ _ qa⟩ hl fun H5 hF => hk H5 ?_
      · intro acc' ys' st7 st8 H8 x' d' ρ8 Z8 uv' Nx1 f8 fs8 dm8 rs8 hn8 hz8 hD8 qa8 qd8 ho8 hl8 hk8
        simp only [compOne, Option.bind_eq_some_iff] at ho8
        obtain ⟨env9, h9, ⟨b9, st9⟩, h10, h11⟩ := ho8
        refine bd_go rs8 (re4.mz fs8) hs1 qd8 h9 fun σ3 re9 hw9 => ⟨hw9, ?_⟩
        refine tst rs8 re9 h10 fun ρ9 Z9 H9 f9 r9 e9 => ?_
        have fz9 := f9.fz rs8.sub
        have hn9 : D0 ∉ ρ9 := fun z => by
          rcases f9.new D0 z with z | z
          · exact hn8 z
          · rw [hD8] at z; cases z
        have hD9 := f9.keep D0 _ hD8 hn8 (fun _ z => nomatch z)
        have dm9 : ∀ c o, H4 c = some o → ∃ o', H9 c = some o' := fun c o h => by
          obtain ⟨o', h'⟩ := dm8 c o h
          exact f9.dom c o' h'
        have qa9 := Reps.mono rs8.sub f9 _ _ qa8
        cases b9 with
        | true =>
          simp only [if_true] at h11 ⊢
          exact elt_go (f8.trans f9) (fs8.trans dm8 fz9) dm9 hD r9 e9 hn9 ((f9.ex D0 _ hD8).mpr hz8) hD9 qa9 h11 hl8 hk8
        | false =>
          simp only [Bool.false_eq_true, if_false] at h11 ⊢
          cases h11
          refine hk8 _ ?_
          rw [List.append_nil]
          exact ⟨ρ9, Z9, uv', f8.trans f9, fs8.trans dm8 fz9, dm9, r9, hn9, (f9.ex D0 _ hD8).mpr hz8, hD9, qa9⟩
      · obtain ⟨ρ5, Z5, uv5, a1, a2, a3, a4, a5, a6, a7, a8⟩ := hF
        exact ⟨ρ5, Z5, uv5, a1, fz4.trans (dm_of f24) a2, fun c o h => let ⟨o', h'⟩ := dm_of f24 c o h; a3 c o' h', a4, a5, a6, a7, a8⟩
    | false =>
      simp only [Bool.false_eq_true, if_false] at h6 ⊢
      cases h6
      refine hk _ ?_
      rw [List.append_nil]
      exact ⟨ρ2, Z2, uv, f.trans f2, fs.trans dm (f2.fz rs'.sub), dm_of f2, r2, hn_of f2, (f2.ex D0 _ hD').mpr hz, f2.keep D0 _ hD' hn (fun _ z => nomatch z), Reps.mono rs'.sub f2 _ _ qa⟩
  · cases h3
end
end Q

/-! QDct: displays of dicts. -/
namespace Q
open PySem PySem.Spec PyProof.Rows L2

section
variable {K : PySem.W.Frag} {T : List (Addr × Str)} {ρ ρ1 : List Addr} {Z Z1 : Addr → Prop} {H H1 : Hp} {st : Store} {p : Addr}
/-- a new object that nothing leans on -/
theorem RelS.forb {o : HO} (r : RelS K T ρ Z st H) (hp : H p = none) : RelS K T ρ (fun a => Z a ∨ a = p) st (upd H p o) ∧ Fz ρ Z H ρ (fun a => Z a ∨ a = p) (upd H p o) := by
  have k : ∀ a o', H a = some o' → upd H p o a = some o' := fun a o' h => by rw [upd_ne (ne_of_none h hp)]; exact h
  have fz : Fz ρ Z H ρ (fun a => Z a ∨ a = p) (upd H p o) := ⟨⟨[], by simp⟩, fun a o h _ _ => k a o h, fun a o h z => by
    rcases z with z | z
    · exact z
    · exact absurd z (ne_of_none h hp), fun a o u h => k a _ h⟩
  refine ⟨⟨r.len, r.nd, fun a h => .inl (r.sub a h), fun a h => ?_, fun n a so h1 h2 => ?_, r.tabs_of fun a o h _ => k a o h⟩, fz⟩
  · rcases h with h | rfl
    · obtain ⟨o', h'⟩ := r.dom a h
      exact ⟨o', k a o' h'⟩
    · exact ⟨_, upd_same⟩
  · have q := r.obj n a so h1 h2
    cases so with
    | lst ds => obtain ⟨vs, e1, q⟩ := q; exact ⟨vs, k _ _ e1, Reps.mz fz _ _ q⟩
    | dct kvs => obtain ⟨vs, e1, q⟩ := q; exact ⟨vs, k _ _ e1, q.mz fz⟩
    | lck kvs => obtain ⟨ob, vs, e1, q⟩ := q; exact ⟨ob, vs, k _ _ e1, q.mz fz⟩
/-- it becomes a place -/
theorem RelS.adopt {ws us : List (Key × V)} {kvs : List (Key × D)} (r : RelS K T ρ Z st H) (hz : Z p) (hn : p ∉ ρ) (hD : H p = some (.dK ws)) (q : KReps K ρ Z H kvs us) :
    RelS K T (ρ ++ [p]) Z (st ++ [.dct kvs]) (upd H p (.dK us)) ∧ Fz ρ Z H (ρ ++ [p]) Z (upd H p (.dK us)) := by
  have k : ∀ a o', H a = some o' → a ≠ p → upd H p (.dK us) a = some o' := fun a o' h e => by rw [upd_ne e]; exact h
  have fz : Fz ρ Z H (ρ ++ [p]) Z (upd H p (.dK us)) := ⟨⟨[p], rfl⟩, fun a o h hz' _ => k a o h fun e => hz' (e ▸ hz), fun _ _ _ z => z, fun a o u h => k a _ h fun e => by rw [e, hD] at h; cases h⟩
  refine ⟨⟨by simp [r.len], ?_, fun a h => ?_, fun a h => ?_, fun n a so h1 h2 => ?_, fun t ht => ?_⟩, fz⟩
  · rw [List.nodup_append]
    refine ⟨r.nd, by simp, fun a ha b hb e => ?_⟩
    have eb : b = p := by simpa using hb
    subst e; subst eb
    exact hn ha
  · rcases List.mem_append.mp h with h | h
    · exact r.sub a h
    · have e : a = p := by simpa using h
      rw [e]; exact hz
  · by_cases e : a = p
    · subst e; exact ⟨_, upd_same⟩
    · obtain ⟨o', h'⟩ := r.dom a h
      exact ⟨o', k a o' h' e⟩
  · by_cases hl : n < ρ.length
    · rw [List.getElem?_append_left hl] at h1
      rw [List.getElem?_append_left (by rw [← r.len]; exact hl)] at h2
      have e : a ≠ p := fun e => hn (e ▸ List.mem_of_getElem? h1)
      have q := r.obj n a so h1 h2
      cases so with
      | lst ds => obtain ⟨vs, e1, q⟩ := q; exact ⟨vs, k _ _ e1 e, Reps.mz fz _ _ q⟩
      | dct kvs => obtain ⟨vs, e1, q⟩ := q; exact ⟨vs, k _ _ e1 e, q.mz fz⟩
      | lck kvs => obtain ⟨ob, vs, e1, q⟩ := q; exact ⟨ob, vs, k _ _ e1 e, q.mz fz⟩
    · have hn' : n = ρ.length := by
        have := (List.getElem?_eq_some_iff.mp h1).1
        simp at this
        omega
      subst hn'
      rw [List.getElem?_append_right (Nat.le_refl _)] at h1
      rw [r.len, List.getElem?_append_right (Nat.le_refl _)] at h2
      simp at h1 h2
      subst h1; subst h2
      exact ⟨us, upd_same, q.mz fz⟩
  · obtain ⟨ps, h1, h2, h3⟩ := r.tabs t ht
    refine ⟨ps, k _ _ h1 (fun e => by rw [e, hD] at h1; cases h1), h2, fun pos cv hc => ?_⟩
    obtain ⟨c, e1, e2⟩ := h3 pos cv hc
    exact ⟨c, e1, k _ _ e2 (fun e => by
      rw [e, hD] at e2
      have := Option.some.inj e2
      simp [LamX.CodeO] at this)⟩
theorem merge_rep : ∀ {ps : List (Key × D)} {ks : List (Key × V)} {acc : List (Key × D)} {bcc : List (Key × V)}, KReps K ρ Z H ps ks → KReps K ρ Z H acc bcc → KReps K ρ Z H (mergeP acc ps) (mergeK bcc ks)
  | [], ks, acc, bcc, h, h2 => by
    have := h.unnil
    subst this
    exact h2
  | x :: ps, ks, acc, bcc, h, h2 => by
    obtain ⟨w, r, rfl, e1, e2, e3, e4⟩ := h.uncons
    show KReps K ρ Z H (mergeP (dput acc x.1 x.2) ps) (mergeK (L2.putK bcc w.1 w.2) r)
    rw [← e1]
    exact merge_rep e4 (put_rep h2 e2 e3)
end
def trsOf (K : PySem.W.Frag) (T : List (Addr × Str)) (C : Ctx) : List X → List (TE × TE)
  | k :: v :: xs => (tEv K T C k, tEv K T C v) :: trsOf K T C xs
  | _ => []
def noStar : List X → Bool
  | [] => true
  | x :: xs => !starX x && noStar xs
section
variable {K : PySem.W.Frag} {T : List (Addr × Str)} {C : Ctx}
theorem pairs_go : ∀ {xs : List X} {ρ : List Addr} {Z : Addr → Prop} {H : Hp} {st st' : Store} {env : Env} {σ : L2.St} {ds : List D} {ps : List (Key × D)} {Q : List (V × V) → Hp → Prop}, noStar xs = true → RelS K T ρ Z st H → RelE K ρ Z H env σ → evL C xs env st = some (ds, st') → dPairs ds = some ps →
    (∀ ρ' Z' H' (ks : List (Key × V)), Fr ρ Z H ρ' Z' H' → RelS K T ρ' Z' st' H' → KReps K ρ' Z' H' ps ks → Q (ks.map fun kv => (kV kv.1, kv.2)) H') → tPairs (trsOf K T C xs) σ H Q
  | [], ρ, Z, H, st, st', env, σ, ds, ps, Q, hn, rs, re, h, hp, k => by
    simp only [evL] at h
    cases h
    simp only [dPairs] at hp
    cases hp
    exact k _ _ _ [] .refl rs .nil
  | [x], ρ, Z, H, st, st', env, σ, ds, ps, Q, hn, rs, re, h, hp, k => by
    simp only [noStar, Bool.and_true, Bool.not_eq_true'] at hn
    rw [evL_cons hn] at h
    simp only [evL, Option.bind_eq_some_iff, Option.map_eq_some_iff] at h
    obtain ⟨⟨d, st1⟩, h1, ⟨es, st2⟩, h2, h3⟩ := h
    cases h2; cases h3
    simp [dPairs] at hp
  | x :: y :: xs, ρ, Z, H, st, st', env, σ, ds, ps, Q, hn, rs, re, h, hp, k => by
    simp only [noStar, Bool.and_eq_true, Bool.not_eq_true'] at hn
    rw [evL_cons hn.1] at h
    simp only [Option.bind_eq_some_iff, Option.map_eq_some_iff] at h
    obtain ⟨⟨d, st1⟩, h1, ⟨es, st2⟩, h2, h3⟩ := h
    rw [evL_cons hn.2.1] at h2
    simp only [Option.bind_eq_some_iff, Option.map_eq_some_iff] at h2
    obtain ⟨⟨d2, st3⟩, h4, ⟨es2, st4⟩, h5, h6⟩ := h2
    cases h6; cases h3
    simp only [dPairs, Option.bind_eq_some_iff, Option.map_eq_some_iff] at hp
    obtain ⟨ky, h7, qs, h8, h9⟩ := hp
    subst h9
    refine tEv.go rs re h1 fun ρ1 Z1 H1 v f1 r1 e1 q1 => tEv.go r1 e1 h4 fun ρ2 Z2 H2 u f2 r2 e2 q2 => ?_
    refine pairs_go hn.2.2 r2 e2 h5 h8 fun ρ3 Z3 H3 ks f3 r3 q3 => ?_
    have q1' := Rep.mono r2.sub f3 _ _ (Rep.mono r1.sub f2 _ _ q1)
    have q2' := Rep.mono r2.sub f3 _ _ q2
    rw [rep_key q1' h7]
    exact k ρ3 Z3 H3 ((ky, u) :: ks) ((f1.trans f2).trans f3) r3 (KReps.cons rfl q2' (fun z e => key_str q1' h7 z e) q3)
theorem i_dct {xs ys : List X} {σ : L2.St} {H : Hp} {Q : VK} (hn : noStar xs = true) (h : tEv K T C (.dct xs ys) σ H Q) : tDisp (trsOf K T C xs) σ H Q := by
  obtain ⟨ρ, Z, st, env, d, st', rs, re, h, k⟩ := h
  simp only [ev, Option.bind_eq_some_iff] at h
  obtain ⟨⟨ds, st1⟩, h1, ps, h2, h3⟩ := h
  split at h3
  · rename_i hl
    unfold mkD at h3
    cases h3
    intro p hp
    obtain ⟨r1, fz1⟩ := rs.forb (o := .dK []) hp
    have np : p ∉ ρ := fun z => rs.free hp (rs.sub _ z)
    refine pairs_go hn r1 (re.mz fz1) h1 h2 fun ρ2 Z2 H2 ks f2 r2 q2 => ?_
    have hp2 : H2 p = some (.dK []) := f2.keep p _ upd_same np fun _ z => nomatch z
    have np2 : p ∉ ρ2 := fun z => by
      rcases f2.new p z with z | z
      · exact np z
      · rw [upd_same] at z; cases z
    have zp : Z2 p := (f2.ex p _ upd_same).mpr (.inr rfl)
    obtain ⟨r3, fz3⟩ := r2.adopt zp np2 hp2 (merge_rep q2 .nil)
    refine ⟨hp2, ks, rfl, ?_, ?_⟩
    · have := congrArg List.length q2.1
      simp only [List.length_map] at this
      omega
    · have kk : ∀ a o', H a = some o' → upd H p (.dK []) a = some o' := fun a o' h => by rw [upd_ne (ne_of_none h hp)]; exact h
      refine k (ρ2 ++ [p]) Z2 _ _ ⟨?_, fun a o h hr ht => ?_, fun a o h => ?_, fun a o h => ?_, fun a o u h => ?_, fun a h => ?_⟩ r3 ?_
      · obtain ⟨r, e⟩ := f2.pre
        exact ⟨r ++ [p], by rw [e, List.append_assoc]⟩
      · rw [upd_ne (ne_of_none h hp)]
        exact f2.keep a o (kk a o h) hr ht
      · constructor
        · intro z
          rcases (f2.ex a o (kk a o h)).mp z with z | z
          · exact z
          · exact absurd z (ne_of_none h hp)
        · intro z
          exact (f2.ex a o (kk a o h)).mpr (.inl z)
      · obtain ⟨o', h'⟩ := f2.dom a o (kk a o h)
        exact ⟨o', by rw [upd_ne (ne_of_none h hp)]; exact h'⟩
      · rw [upd_ne (ne_of_none h hp)]
        exact f2.frz a o u (kk a _ h)
      · rcases List.mem_append.mp h with h | h
        · rcases f2.new a h with z | z
          · exact .inl z
          · right
            cases e : H a with
            | none => rfl
            | some o => rw [kk a o e] at z; cases z
        · have e : a = p := by simpa using h
          rw [e]; exact .inr hp
      · simp only [Rep]
        exact ⟨p, rfl, by rw [List.getElem?_append_right (by rw [r2.len]; exact Nat.le_refl _), r2.len]; simp⟩
  · cases h3
theorem i_dct0 {ys : List X} {σ : L2.St} {H : Hp} {Q : VK} (h : tEv K T C (.dct [] ys) σ H Q) : tDNewK σ H Q := by
  obtain ⟨ρ, Z, st, env, d, st', rs, re, h, k⟩ := h
  simp only [ev, evL, Option.bind_some, dPairs] at h
  have h : mkD [] st = some (d, st') := h
  intro p hp
  exact mkD_ok rs hp .nil h fun ρ' Z' H' w f r q => k _ _ _ _ f r q
end
end Q

/-! QChk: a test that a tree is a given text's; what it brings. -/
namespace Q
open PySem PySem.Spec PyProof.Rows L2

def plainIxB : Expr → Bool
  | .Slice _ _ _ _ => false
  | _ => true
theorem plainIx_ok {r : Expr} (h : plainIxB r = true) : PlainIx r := by
  intro o i
  cases r <;> first | rfl | (simp [plainIxB] at h)
def notSetB : Expr → Bool
  | .Set _ _ _ => false
  | _ => true
theorem notSet_ok {e : Expr} (h : notSetB e = true) (env : PySem.Env) (x : Value) : foldedSetIterable e env x = pure x := by
  cases e <;> first | rfl | (simp [notSetB] at h)
def plainT : Expr → Bool
  | .UnaryOp .Not _ _ => false
  | .BoolOp _ _ _ => false
  | .IfExp _ _ _ _ => false
  | .Compare _ _ _ _ => false
  | _ => true
theorem plainT_ok {e : Expr} (h : plainT e = true) (env : PySem.Env) (whole : Sem Value) : isTrue e env whole = (do let v ← whole; standAt e.pos; holding [v] (truthy v)) := by
  cases e
  case UnaryOp op _ _ => cases op <;> first | rfl | (simp [plainT] at h)
  all_goals first | rfl | (simp [plainT] at h)
def subL (L : Lv) (scope : Scope) : Lv := ⟨L.N, relS scope L.sc, fun x => scope.names.lookup x == some .cell⟩
def isTup : Expr → Bool
  | .Tuple _ _ _ => true
  | _ => false
def tru : Q.X → Bool
  | .bl true => true
  | _ => false
mutual
/-- the tree is the text's -/
def okE (g : Sig) : Q.X → Lv → Expr → Bool
  | .int i, _, e => match e with
    | .Constant (.int j) _ _ => decide (i = j)
    | _ => false
  | .str s, _, e => match e with
    | .Constant (.str t) _ _ => decide (s = t) && PySem.PyData.strOk s
    | _ => false
  | .bl b, _, e => match e with
    | .Constant (.bool c) _ _ => decide (b = c)
    | _ => false
  | .non, _, e => match e with
    | .Constant .none _ _ => true
    | _ => false
  | .none_, _, _ => false
  | .star _, _, _ => false
  | .dct xs _, L, e => match e with
    | .Dict keys values _ => decide (keys.length ≤ 15) && noStar xs && okD g xs L keys values
    | _ => false
  | .sortK _ _, _, _ => false
  | .compK _ _ _ _ _, _, _ => false
  | .var i, L, e => match e with
    | .Name x _ => decide (L.N[i]? = some x) && visB L.sc x && !(x == ("__debug__" : Str)) && !(x == ("__classdict__" : Str))
    | _ => false
  | .glb x, L, e => match e with
    | .Name y _ => decide (x = y) && decide (x ∈ g.cst) && glB L.sc x
    | _ => false
  | .bin op a b, L, e => match e with
    | .BinOp l o r _ => decide (o = op) && okE g a L l && okE g b L r
    | _ => false
  | .cat _ a b, L, e => match e with
    | .BinOp l o r _ => decide (o = .Add) && okE g a L l && okE g b L r
    | _ => false
  | .neg a, L, e => match e with
    | .UnaryOp o x _ => decide (o = .USub) && okE g a L x
    | _ => false
  | .not a, L, e => match e with
    | .UnaryOp o x _ => decide (o = .Not) && !iteX a && okE g a L x
    | _ => false
  | .cmp op a b, L, e => match e with
    | .Compare l [o] [r] _ => decide (o = op) && isCmp op && okE g a L l && okE g b L r
    | _ => false
  | .chain op op2 a b c, L, e => match e with
    | .Compare l [o, o2] [m, r] _ => decide (o = op) && decide (o2 = op2) && isCmp op2 && okE g a L l && okE g b L m && okE g c L r
    | _ => false
  | .isN a, L, e => match e with
    | .Compare l [o] [.Constant .none _ _] _ => decide (o = .Is) && okE g a L l
    | _ => false
  | .notN a, L, e => match e with
    | .Compare l [o] [.Constant .none _ _] _ => decide (o = .IsNot) && okE g a L l
    | _ => false
  | .isB a b, L, e => match e with
    | .Compare l [o] [.Constant (.bool t) _ _] _ => decide (o = .Is) && decide (t = b) && okE g a L l
    | _ => false
  | .mem a b, L, e => match e with
    | .Compare l [o] [r] _ => decide (o = .In) && !behindInMarks .In r && okE g a L l && okE g b L r
    | _ => false
  | .notIn a b, L, e => match e with
    | .Compare l [o] [r] _ => decide (o = .NotIn) && !behindInMarks .NotIn r && okE g a L l && okE g b L r
    | _ => false
  | .memK a b, L, e => match e with
    | .Compare l [o] [r] _ => decide (o = .In) && !behindInMarks .In r && okE g a L l && okE g b L r
    | _ => false
  | .notInK a b, L, e => match e with
    | .Compare l [o] [r] _ => decide (o = .NotIn) && !behindInMarks .NotIn r && okE g a L l && okE g b L r
    | _ => false
  | .and xs, L, e => match e with
    | .BoolOp o es _ => decide (o = .And) && xs.all (fun x => !iteX x && !starX x) && !xs.isEmpty && okL g xs L es
    | _ => false
  | .or xs, L, e => match e with
    | .BoolOp o es _ => decide (o = .Or) && xs.all (fun x => !iteX x && !starX x) && !xs.isEmpty && okL g xs L es
    | _ => false
  | .ite c a b, L, e => match e with
    | .IfExp t l r _ => !iteX c && okE g c L t && okE g a L l && okE g b L r
    | _ => false
  | .tup xs, L, e => match e with
    | .Tuple es _ _ => okL g xs L es
    | _ => false
  | .lst _ xs, L, e => match e with
    | .List es _ => okL g xs L es
    | _ => false
  | .sub a b, L, e => match e with
    | .Subscript l r _ => plainIxB r && okE g a L l && okE g b L r
    | _ => false
  | .subK a b, L, e => match e with
    | .Subscript l r _ => plainIxB r && okE g a L l && okE g b L r
    | _ => false
  | .slice a lo hi, L, e => match e with
    | .Subscript l (.Slice x y none _) _ => okE g a L l && (match x with
      | none => noneX lo
      | some x => okE g lo L x) && (match y with
      | none => noneX hi
      | some y => okE g hi L y)
    | _ => false
  | .rev a, L, e => match e with
    | .Subscript l (.Slice none none (some (.UnaryOp o (.Constant (.int z) _ _) _)) _) _ => decide (o = .USub) && decide (z = 1) && okE g a L l
    | _ => false
  | .call f xs, L, e => match e with
    | .Call (.Name y _) es [] _ => decide (y = f) && decide ((f, xs.length) ∈ g.fns) && glB L.sc f && es.all (fun e => !starP e) && okL g xs L es
    | _ => false
  | .bi f _ xs, L, e => match e with
    | .Call (.Name y _) es [] _ => decide (y = (f.name : Str)) && glB L.sc f.name && es.all (fun e => !starP e) && !es.isEmpty && okL g xs L es
    | _ => false
  | .lrange _ a, L, e => match e with
    | .Call (.Name y _) [.Call (.Name z _) [x] [] _] [] _ => decide (y = ("list" : Str)) && decide (z = ("range" : Str)) && glB L.sc "list" && glB L.sc "range" && !starP x && okE g a L x
    | _ => false
  | .isa tys a, L, e => match e with
    | .Call (.Name y _) [x, .Name u _] [] _ => decide (y = ("isinstance" : Str)) && glB L.sc "isinstance" && (match tys with
      | [t] => decide (u = (t : Str)) && decide (t ∈ tys5) && glB L.sc t
      | _ => false) && !starP x && okE g a L x
    | .Call (.Name y _) [x, .Tuple [.Name u _, .Name w _] _ _] [] _ => decide (y = ("isinstance" : Str)) && glB L.sc "isinstance" && (match tys with
      | [t, t2] => decide (u = (t : Str)) && decide (t ∈ tys5) && glB L.sc t && decide (w = (t2 : Str)) && decide (t2 ∈ tys5) && glB L.sc t2
      | _ => false) && !starP x && okE g a L x
    | _ => false
  | .meth f o xs, L, e => match e with
    | .Call (.Attribute b n apos) es [] cpos => decide (n = (f.name : Str)) && recvP b && (apos.endLine == cpos.line) && okE g o L b && es.all (fun e => !starP e) && okL g xs L es && (match f with
      | .insert => xs.length == 2
      | _ => xs.length == 1)
    | _ => false
  | .comp own t it c x, L, e => match e with
    | .ListComp elt [⟨tg, iter, ifs, k⟩] scope _ => decide (k = 0) && blkC L.N L.sc scope own && okB (subL L scope) t tg && ((tSlots t).all fun i => decide (i ∈ own.map (·.2))) && notSetB iter && okI g it L tg iter && (match ifs with
      | [] => tru c
      | [y] => !iteX c && okE g c (subL L scope) y
      | _ => false) && okE g x (subL L scope) elt
    | _ => false
  | .comp2 own t it c own1 t1 it1 c1 x, L, e => match e with
    | .ListComp elt [⟨tg, iter, ifs, k⟩, ⟨tg1, iter1, ifs1, k1⟩] scope _ => decide (k = 0) && blkC L.N L.sc scope own && okB (subL L scope) t tg && ((tSlots t).all fun i => decide (i ∈ own.map (·.2))) && notSetB iter && okI g it L tg iter && (match ifs with
      | [] => tru c
      | [y] => !iteX c && okE g c (subL L scope) y
      | _ => false) && (decide (k1 = 0) && (own1.all fun i => decide (i ∈ own.map (·.2))) && okB (subL L scope) t1 tg1 && ((tSlots t1).all fun i => decide (i ∈ own1)) && notSetB iter1 && okI g it1 (subL L scope) tg1 iter1 && (match ifs1 with
      | [] => tru c1
      | [y] => !iteX c1 && okE g c1 (subL L scope) y
      | _ => false) && okE g x (subL L scope) elt)
    | _ => false
def okL (g : Sig) : List Q.X → Lv → List Expr → Bool
  | [], _, es => es.isEmpty
  | .star a :: xs, L, es => match es with
    | .Starred e _ :: es => okE g a L e && okL g xs L es
    | _ => false
  | x :: xs, L, es => match es with
    | e :: es => okE g x L e && okL g xs L es
    | _ => false
def okD (g : Sig) : List Q.X → Lv → List (Option Expr) → List Expr → Bool
  | [], _, ks, vs => ks.isEmpty && vs.isEmpty
  | [_], _, _, _ => false
  | k :: v :: xs, L, ks, vs => match ks, vs with
    | some a :: ks, b :: vs => okE g k L a && okE g v L b && okD g xs L ks vs
    | _, _ => false
def okI (g : Sig) : Q.It → Lv → Expr → Expr → Bool
  | .seq a, L, _, e => okE g a L e
  | .rng1 a, L, _, e => match e with
    | .Call (.Name y _) [x] [] _ => decide (y = ("range" : Str)) && glB L.sc "range" && !starP x && okE g a L x
    | _ => false
  | .rng2 a b, L, _, e => match e with
    | .Call (.Name y _) [x, z] [] _ => decide (y = ("range" : Str)) && glB L.sc "range" && !starP x && !starP z && okE g a L x && okE g b L z
    | _ => false
  | .enum _, _, _, _ => false
  | .zip _ _, _, _, _ => false
  | .chars a, L, _, e => okE g a L e
end
section
variable {g : Sig} {L : Lv} {x : Q.X} {e : Expr}
theorem okE_starP (h : okE g x L e = true) : starP e = false := by
  cases e <;> first | rfl | (exfalso; cases x <;> simp [okE] at h)
theorem okE_starX (h : okE g x L e = true) : starX x = false := by
  cases x <;> first | rfl | (simp [okE] at h)
theorem okE_noneX (h : okE g x L e = true) : noneX x = false := by
  cases x <;> first | rfl | (simp [okE] at h)
end
end Q

/-! QSnd7: a tree that stands the test gives what the text gives: expressions. -/
namespace Q
open PySem PySem.Spec PyProof.Rows L2

section
variable {g : Sig} {C : Ctx} {T : List (Addr × Str)} {k : Nat}
theorem Good.blk {L : Lv} {X : Cx} (G : Good g C T k L X) (s : Shared) (H : Hp) (scope : Scope) (C' : Addr) (cl : List (Str × Addr)) (fp : List Addr) : Good g C T k (subL L scope) (X.blk s H scope (compEnvC scope cl C' X.env) fp) := by
  refine ⟨fun x h => h, G.hN, G.nd, ?_, G.calm, G.room, rfl, G.fns, G.cst, G.blt⟩
  show relS scope X.env.scope = relS scope L.sc
  rw [G.sc]
theorem pt_plain {X : Cx} {e : Expr} {x : Q.X} (h : plainT e = true) (p : PE X e (tEv X.K T C x)) : PE X e (tEv X.K T C x) ∧ (iteX x = false → PT X e (tB (tEv X.K T C x))) := ⟨p, fun _ => pt_val p (plainT_ok h X.env)⟩
theorem pts_yes {X : Cx} {x : Q.X} (h : tru x = true) : PTs X [] (tB (tEv X.K T C x)) := by
  refine ⟨fun pins s σ H Q I hw => pts_nil.run pins s σ H Q I ?_⟩
  cases x <;> simp only [tru, Bool.false_eq_true] at h
  rename_i b
  cases b <;> simp only [tru, Bool.false_eq_true] at h
  obtain ⟨ρ, Z, st, env, d, st', rs, re, h, k⟩ := hw
  simp only [ev] at h
  cases h
  obtain ⟨b, e, q⟩ := k _ _ _ (.bl true) .refl rs (by simp [Rep])
  cases e
  exact q
theorem sa_of {X : Cx} {e : Expr} {x : Q.X} {L : Lv} (h : okE g x L e = true) (p : PE X e (tEv X.K T C x) ∧ (iteX x = false → PT X e (tB (tEv X.K T C x)))) : SA X T C x e := .inr ⟨okE_starX h, okE_starP h, p.1, p.2⟩
theorem all_ok {xs : List Q.X} (h : (xs.all fun x => !iteX x && !starX x) = true) : ∀ x ∈ xs, iteX x = false ∧ starX x = false := fun x hx => by
  have q := List.all_eq_true.mp h x hx
  simp only [Bool.and_eq_true, Bool.not_eq_true'] at q
  exact q
theorem ne_of {α : Type} {xs : List α} (h : xs.isEmpty = false) : xs ≠ [] := fun e => by rw [e] at h; cases h
theorem slots_ok {ss : List Nat} {own : List Nat} (h : (ss.all fun i => decide (i ∈ own)) = true) : ∀ i ∈ ss, i ∈ own := fun i hi => of_decide_eq_true (List.all_eq_true.mp h i hi)
theorem s_comp2 {L : Lv} {X : Cx} {own : List (Str × Nat)} {vs1 : List Nat} {t t1 : Tt} {it it1 : Q.It} {c c1 e : Q.X} {tg iter tg1 iter1 elt : Expr} {ifs ifs1 : List Expr} {scope : Scope} {pos : Pos} (G : Good g C T k L X) (hi : PI X tg iter (tIt X.K T C it)) (ok : BlkOk X.N X.env.scope scope own) (hsl : ∀ i ∈ tSlots t, i ∈ own.map (·.2)) (hv : ∀ i ∈ vs1, i ∈ own.map (·.2)) (hsl1 : ∀ i ∈ tSlots t1, i ∈ vs1)
    (hg : ∀ (s : Shared) (H : Hp) (C' : Addr) (cl : List (Str × Addr)) (fp : List Addr), PG (X.blk s H scope (compEnvC scope cl C' X.env) fp) tg (tBd X.K t))
    (ht : ∀ (s : Shared) (H : Hp) (C' : Addr) (cl : List (Str × Addr)) (fp : List Addr), PTs (X.blk s H scope (compEnvC scope cl C' X.env) fp) ifs (tB (tEv X.K T C c)))
    (hi1 : ∀ (s : Shared) (H : Hp) (C' : Addr) (cl : List (Str × Addr)) (fp : List Addr), PI (X.blk s H scope (compEnvC scope cl C' X.env) fp) tg1 iter1 (tIt X.K T C it1))
    (hg1 : ∀ (s : Shared) (H : Hp) (C' : Addr) (cl : List (Str × Addr)) (fp : List Addr), PG (X.blk s H scope (compEnvC scope cl C' X.env) fp) tg1 (tBd X.K t1))
    (ht1 : ∀ (s : Shared) (H : Hp) (C' : Addr) (cl : List (Str × Addr)) (fp : List Addr), PTs (X.blk s H scope (compEnvC scope cl C' X.env) fp) ifs1 (tB (tEv X.K T C c1)))
    (he : ∀ (s : Shared) (H : Hp) (C' : Addr) (cl : List (Str × Addr)) (fp : List Addr), PE (X.blk s H scope (compEnvC scope cl C' X.env) fp) elt (tEv X.K T C e)) (hs : ∀ x, foldedSetIterable iter X.env x = pure x) (hs1 : ∀ env x, foldedSetIterable iter1 env x = pure x) :
    PE X (.ListComp elt [⟨tg, iter, ifs, 0⟩, ⟨tg1, iter1, ifs1, 0⟩] scope pos) (tEv X.K T C (.comp2 own t it c vs1 t1 it1 c1 e)) := (pe_lc2 G.calm (by rw [G.hN]; exact G.nd) hi ok hv hg ht hi1 hg1 ht1 he hs hs1).imp fun σ H Q h => i_comp2 hsl hsl1 h
mutual
theorem sound : ∀ (x : Q.X) (L : Lv) (e : Expr) (X : Cx), Good g C T k L X → okE g x L e = true → PE X e (tEv X.K T C x) ∧ (iteX x = false → PT X e (tB (tEv X.K T C x)))
  | .int i, L, e, X, G, h => by
    simp only [okE] at h; split at h; (case h_2 => cases h)
    cases of_decide_eq_true h
    exact pt_plain rfl (s_const (v := .int i) (d := .int i) pe_int (fun _ _ => by simp [ev]) (fun _ _ _ q => q) fun _ _ _ => by simp [Rep])
  | .str z, L, e, X, G, h => by
    simp only [okE] at h; split at h; (case h_2 => cases h)
    simp only [Bool.and_eq_true, decide_eq_true_eq] at h
    obtain ⟨rfl, h⟩ := h
    exact pt_plain rfl (s_const (v := .str z) (d := .str z) pe_str (fun _ _ => by simp [ev]) (fun _ _ _ q => q) fun _ _ _ => by simp only [Rep]; exact ⟨trivial, h⟩)
  | .bl b, L, e, X, G, h => by
    simp only [okE] at h; split at h; (case h_2 => cases h)
    cases of_decide_eq_true h
    exact pt_plain rfl (s_const (v := .bl b) (d := .bl b) pe_bl (fun _ _ => by simp [ev]) (fun _ _ _ q => q) fun _ _ _ => by simp [Rep])
  | .non, L, e, X, G, h => by
    simp only [okE] at h; split at h; (case h_2 => cases h)
    exact pt_plain rfl (s_const (v := .non) (d := .non) pe_non (fun _ _ => by simp [ev]) (fun _ _ _ q => q) fun _ _ _ => by simp [Rep])
  | .none_, _, _, _, _, h => by simp [okE] at h
  | .star _, _, _, _, _, h => by simp [okE] at h
  | .dct xs ys, L, e, X, G, h => by
    simp only [okE] at h; split at h; (case h_2 => cases h)
    rename_i keys values pos
    simp only [Bool.and_eq_true, decide_eq_true_eq] at h
    obtain ⟨⟨h1, h2⟩, h3⟩ := h
    cases xs with
    | nil =>
      simp only [okD, Bool.and_eq_true, List.isEmpty_iff] at h3
      obtain ⟨rfl, rfl⟩ := h3
      exact pt_plain rfl (pe_dnewK.imp fun σ H Q h => i_dct0 h)
    | cons x xs =>
      obtain ⟨q1, q2, q3⟩ := soundD (x :: xs) L keys values pos X G h3
      have q4 : keys ≠ [] := fun e => by
        subst e
        cases xs <;> simp [okD] at h3
      exact pt_plain rfl ((pe_disp q1 q2 q3 q4 h1).imp fun σ H Q h => i_dct h2 h)
  | .sortK _ _, _, _, _, _, h => by simp [okE] at h
  | .compK _ _ _ _ _, _, _, _, _, h => by simp [okE] at h
  | .var i, L, e, X, G, h => by
    simp only [okE] at h; split at h; (case h_2 => cases h)
    simp only [Bool.and_eq_true, Bool.not_eq_true', decide_eq_true_eq] at h
    exact pt_plain rfl (s_var G h.1.1.1 h.1.1.2 h.1.2 h.2)
  | .glb x, L, e, X, G, h => by
    simp only [okE] at h; split at h; (case h_2 => cases h)
    simp only [Bool.and_eq_true, decide_eq_true_eq] at h
    obtain ⟨⟨rfl, h1⟩, h2⟩ := h
    exact pt_plain rfl (s_glb G h1 h2)
  | .bin op a b, L, e, X, G, h => by
    simp only [okE] at h; split at h; (case h_2 => cases h)
    simp only [Bool.and_eq_true, decide_eq_true_eq] at h
    obtain ⟨⟨rfl, h1⟩, h2⟩ := h
    exact pt_plain rfl (s_bin (sound a L _ X G h1).1 (sound b L _ X G h2).1)
  | .cat m a b, L, e, X, G, h => by
    simp only [okE] at h; split at h; (case h_2 => cases h)
    simp only [Bool.and_eq_true, decide_eq_true_eq] at h
    obtain ⟨⟨rfl, h1⟩, h2⟩ := h
    exact pt_plain rfl (s_cat (sound a L _ X G h1).1 (sound b L _ X G h2).1)
  | .neg a, L, e, X, G, h => by
    simp only [okE] at h; split at h; (case h_2 => cases h)
    simp only [Bool.and_eq_true, decide_eq_true_eq] at h
    obtain ⟨rfl, h1⟩ := h
    exact pt_plain rfl (s_neg (sound a L _ X G h1).1)
  | .not a, L, e, X, G, h => by
    simp only [okE] at h; split at h; (case h_2 => cases h)
    simp only [Bool.and_eq_true, Bool.not_eq_true', decide_eq_true_eq] at h
    obtain ⟨⟨rfl, h1⟩, h2⟩ := h
    have q := sound a L _ X G h2
    exact ⟨s_not q.1, fun _ => p_not (q.2 h1)⟩
  | .cmp op a b, L, e, X, G, h => by
    simp only [okE] at h; split at h; (case h_2 => cases h)
    simp only [Bool.and_eq_true, decide_eq_true_eq] at h
    obtain ⟨⟨⟨rfl, h0⟩, h1⟩, h2⟩ := h
    have q1 := (sound a L _ X G h1).1
    have q2 := (sound b L _ X G h2).1
    exact ⟨s_cmp G h0 q1 q2, fun _ => p_cmp G h0 q1 q2⟩
  | .chain op op2 a b c, L, e, X, G, h => by
    simp only [okE] at h; split at h; (case h_2 => cases h)
    simp only [Bool.and_eq_true, decide_eq_true_eq] at h
    obtain ⟨⟨⟨⟨⟨rfl, rfl⟩, h0⟩, h1⟩, h2⟩, h3⟩ := h
    have q1 := (sound a L _ X G h1).1
    have q2 := (sound b L _ X G h2).1
    have q3 := (sound c L _ X G h3).1
    exact ⟨s_chain G h0 q1 q2 q3, fun _ => p_chain G h0 q1 q2 q3⟩
  | .isN a, L, e, X, G, h => by
    simp only [okE] at h; split at h; (case h_2 => cases h)
    simp only [Bool.and_eq_true, decide_eq_true_eq] at h
    obtain ⟨rfl, h1⟩ := h
    have q := (sound a L _ X G h1).1
    exact ⟨s_isN q, fun _ => p_isN q⟩
  | .notN a, L, e, X, G, h => by
    simp only [okE] at h; split at h; (case h_2 => cases h)
    simp only [Bool.and_eq_true, decide_eq_true_eq] at h
    obtain ⟨rfl, h1⟩ := h
    have q := (sound a L _ X G h1).1
    exact ⟨s_notN q, fun _ => p_notN q⟩
  | .isB a b, L, e, X, G, h => by
    simp only [okE] at h; split at h; (case h_2 => cases h)
    simp only [Bool.and_eq_true, decide_eq_true_eq] at h
    obtain ⟨⟨rfl, rfl⟩, h1⟩ := h
    have q := (sound a L _ X G h1).1
    exact ⟨s_isB q, fun _ => p_isB q⟩
  | .mem a b, L, e, X, G, h => by
    simp only [okE] at h; split at h; (case h_2 => cases h)
    simp only [Bool.and_eq_true, Bool.not_eq_true', decide_eq_true_eq] at h
    obtain ⟨⟨⟨rfl, h0⟩, h1⟩, h2⟩ := h
    have q1 := (sound a L _ X G h1).1
    have q2 := (sound b L _ X G h2).1
    exact ⟨s_mem G h0 q1 q2, fun _ => p_mem G h0 q1 q2⟩
  | .notIn a b, L, e, X, G, h => by
    simp only [okE] at h; split at h; (case h_2 => cases h)
    simp only [Bool.and_eq_true, Bool.not_eq_true', decide_eq_true_eq] at h
    obtain ⟨⟨⟨rfl, h0⟩, h1⟩, h2⟩ := h
    have q1 := (sound a L _ X G h1).1
    have q2 := (sound b L _ X G h2).1
    exact ⟨s_notIn G h0 q1 q2, fun _ => p_notIn G h0 q1 q2⟩
  | .memK a b, L, e, X, G, h => by
    simp only [okE] at h; split at h; (case h_2 => cases h)
    simp only [Bool.and_eq_true, Bool.not_eq_true', decide_eq_true_eq] at h
    obtain ⟨⟨⟨rfl, h0⟩, h1⟩, h2⟩ := h
    have q1 := (sound a L _ X G h1).1
    have q2 := (sound b L _ X G h2).1
    exact ⟨s_memK G h0 q1 q2, fun _ => p_memK G h0 q1 q2⟩
  | .notInK a b, L, e, X, G, h => by
    simp only [okE] at h; split at h; (case h_2 => cases h)
    simp only [Bool.and_eq_true, Bool.not_eq_true', decide_eq_true_eq] at h
    obtain ⟨⟨⟨rfl, h0⟩, h1⟩, h2⟩ := h
    have q1 := (sound a L _ X G h1).1
    have q2 := (sound b L _ X G h2).1
    exact ⟨s_notInK G h0 q1 q2, fun _ => p_notInK G h0 q1 q2⟩
  | .and xs, L, e, X, G, h => by
    simp only [okE] at h; split at h; (case h_2 => cases h)
    simp only [Bool.and_eq_true, Bool.not_eq_true', decide_eq_true_eq] at h
    obtain ⟨⟨⟨rfl, h0⟩, h1⟩, h2⟩ := h
    rename_i es pos
    have q := and_all (pos := pos) (soundL xs L _ X G h2) (all_ok (by simpa using h0)) (ne_of h1)
    exact ⟨q.1, fun _ => q.2.pt⟩
  | .or xs, L, e, X, G, h => by
    simp only [okE] at h; split at h; (case h_2 => cases h)
    simp only [Bool.and_eq_true, Bool.not_eq_true', decide_eq_true_eq] at h
    obtain ⟨⟨⟨rfl, h0⟩, h1⟩, h2⟩ := h
    rename_i es pos
    have q := or_all (pos := pos) (soundL xs L _ X G h2) (all_ok (by simpa using h0)) (ne_of h1)
    exact ⟨q.1, fun _ => q.2.pt⟩
  | .ite c a b, L, e, X, G, h => by
    simp only [okE] at h; split at h; (case h_2 => cases h)
    simp only [Bool.and_eq_true, Bool.not_eq_true', decide_eq_true_eq] at h
    obtain ⟨⟨⟨h0, h1⟩, h2⟩, h3⟩ := h
    exact ⟨s_ite ((sound c L _ X G h1).2 h0) (sound a L _ X G h2).1 (sound b L _ X G h3).1, fun z => by simp [iteX] at z⟩
  | .tup xs, L, e, X, G, h => by
    simp only [okE] at h; split at h; (case h_2 => cases h)
    exact pt_plain rfl (s_tup (soundL xs L _ X G h))
  | .lst m xs, L, e, X, G, h => by
    simp only [okE] at h; split at h; (case h_2 => cases h)
    exact pt_plain rfl (s_lst (soundL xs L _ X G h))
  | .sub a b, L, e, X, G, h => by
    simp only [okE] at h; split at h; (case h_2 => cases h)
    simp only [Bool.and_eq_true] at h
    exact pt_plain rfl (s_sub G (plainIx_ok h.1.1) (sound a L _ X G h.1.2).1 (sound b L _ X G h.2).1)
  | .subK a b, L, e, X, G, h => by
    simp only [okE] at h; split at h; (case h_2 => cases h)
    simp only [Bool.and_eq_true] at h
    exact pt_plain rfl (s_subK G (plainIx_ok h.1.1) (sound a L _ X G h.1.2).1 (sound b L _ X G h.2).1)
  | .slice a lo hi, L, e, X, G, h => by
    simp only [okE] at h; split at h; (case h_2 => cases h)
    simp only [Bool.and_eq_true] at h
    obtain ⟨⟨h1, h2⟩, h3⟩ := h
    refine pt_plain rfl (s_slice (sound a L _ X G h1).1 ?_ ?_)
    · split at h2
      · cases lo <;> simp only [noneX, Bool.false_eq_true] at h2
        exact po_no
      · exact po_yes (okE_noneX h2) (sound lo L _ X G h2).1
    · split at h3
      · cases hi <;> simp only [noneX, Bool.false_eq_true] at h3
        exact po_no
      · exact po_yes (okE_noneX h3) (sound hi L _ X G h3).1
  | .rev a, L, e, X, G, h => by
    simp only [okE] at h; split at h; (case h_2 => cases h)
    simp only [Bool.and_eq_true, decide_eq_true_eq] at h
    obtain ⟨⟨rfl, rfl⟩, h1⟩ := h
    exact pt_plain rfl (s_rev (sound a L _ X G h1).1)
  | .call f xs, L, e, X, G, h => by
    simp only [okE] at h; split at h; (case h_2 => cases h)
    simp only [Bool.and_eq_true, decide_eq_true_eq] at h
    obtain ⟨⟨⟨⟨rfl, h1⟩, h2⟩, h3⟩, h4⟩ := h
    exact pt_plain rfl (s_call G h1 h2 h3 (soundL xs L _ X G h4))
  | .bi f m xs, L, e, X, G, h => by
    simp only [okE] at h; split at h; (case h_2 => cases h)
    simp only [Bool.and_eq_true, Bool.not_eq_true', decide_eq_true_eq] at h
    obtain ⟨⟨⟨⟨rfl, h1⟩, h2⟩, h3⟩, h4⟩ := h
    exact pt_plain rfl (s_builtin G h1 h2 (ne_of h3) (soundL xs L _ X G h4))
  | .lrange m a, L, e, X, G, h => by
    simp only [okE] at h; split at h; (case h_2 => cases h)
    simp only [Bool.and_eq_true, Bool.not_eq_true', decide_eq_true_eq] at h
    obtain ⟨⟨⟨⟨⟨rfl, rfl⟩, h1⟩, h2⟩, h3⟩, h4⟩ := h
    exact pt_plain rfl (s_lrange G h1 h2 h3 (sound a L _ X G h4).1)
  | .isa tys a, L, e, X, G, h => by
    simp only [okE] at h; split at h; (case h_3 => cases h)
    · simp only [Bool.and_eq_true, Bool.not_eq_true', decide_eq_true_eq] at h
      obtain ⟨⟨⟨⟨rfl, h1⟩, h2⟩, h3⟩, h4⟩ := h
      split at h2; (case h_2 => cases h2)
      simp only [Bool.and_eq_true, decide_eq_true_eq] at h2
      obtain ⟨⟨rfl, h5⟩, h6⟩ := h2
      exact pt_plain rfl (s_isa1 G h1 h5 h6 h3 (sound a L _ X G h4).1)
    · simp only [Bool.and_eq_true, Bool.not_eq_true', decide_eq_true_eq] at h
      obtain ⟨⟨⟨⟨rfl, h1⟩, h2⟩, h3⟩, h4⟩ := h
      split at h2; (case h_2 => cases h2)
      simp only [Bool.and_eq_true, decide_eq_true_eq] at h2
      obtain ⟨⟨⟨⟨⟨rfl, h5⟩, h6⟩, rfl⟩, h7⟩, h8⟩ := h2
      exact pt_plain rfl (s_isa2 G h1 h5 h6 h7 h8 h3 (sound a L _ X G h4).1)
  | .meth f o xs, L, e, X, G, h => by
    simp only [okE] at h; split at h; (case h_2 => cases h)
    simp only [Bool.and_eq_true, decide_eq_true_eq] at h
    obtain ⟨⟨⟨⟨⟨⟨rfl, h1⟩, h2⟩, h3⟩, h4⟩, h5⟩, h6⟩ := h
    have q := (sound o L _ X G h3).1
    have qs := soundL xs L _ X G h5
    rename_i b apos es cpos
    have one : xs.length = 1 → ∃ x e, xs = [x] ∧ es = [e] ∧ starX x = false ∧ starP e = false ∧ PE X e (tEv X.K T C x) := fun hl => by
      cases qs with
      | nil => cases hl
      | cons a t =>
        cases t with
        | cons _ _ => simp at hl
        | nil =>
          rcases a with ⟨_, _, _, e1, e2, _⟩ | ⟨a1, a2, a3, _⟩
          · subst e2; simp [starP] at h4
          · exact ⟨_, _, rfl, rfl, a1, a2, a3⟩
    cases f <;> simp only [beq_iff_eq] at h6
    case append => obtain ⟨x, e, rfl, rfl, a1, a2, a3⟩ := one h6; exact pt_plain rfl (s_append q a3 h1 a2 h2 a1)
    case pop => obtain ⟨x, e, rfl, rfl, a1, a2, a3⟩ := one h6; exact pt_plain rfl (s_pop q a3 h1 a2 h2 a1)
    case popK => obtain ⟨x, e, rfl, rfl, a1, a2, a3⟩ := one h6; exact pt_plain rfl (s_popK q a3 h1 a2 h2 a1)
    case get => obtain ⟨x, e, rfl, rfl, a1, a2, a3⟩ := one h6; exact pt_plain rfl (s_get G q a3 h1 a2 h2 a1)
    case insert =>
      cases qs with
      | nil => simp at h6
      | cons a t =>
        cases t with
        | nil => simp at h6
        | cons b t =>
          cases t with
          | cons _ _ => simp at h6
          | nil =>
            simp only [List.all_cons, Bool.and_eq_true, Bool.not_eq_true'] at h4
            rcases a with ⟨_, _, _, e1, e2, _⟩ | ⟨a1, a2, a3, _⟩
            · subst e2; simp [starP] at h4
            · rcases b with ⟨_, _, _, e1, e2, _⟩ | ⟨b1, b2, b3, _⟩
              · subst e2; simp [starP] at h4
              · exact pt_plain rfl (s_insert q a3 b3 h1 a2 b2 h2 a1 b1)
  | .comp own t it c x, L, e, X, G, h => by
    simp only [okE] at h; split at h; (case h_2 => cases h)
    simp only [Bool.and_eq_true, decide_eq_true_eq] at h
    obtain ⟨⟨⟨⟨⟨⟨⟨rfl, h1⟩, h2⟩, h3⟩, h4⟩, h5⟩, h6⟩, h7⟩ := h
    refine pt_plain rfl (s_comp G (soundI it L _ _ X G h5) (by rw [G.hN, G.sc]; exact blkOk_by h1) (slots_ok h3) (fun s H C' cl fp => s_bind (G.blk s H _ C' cl fp) t _ h2) (fun s H C' cl fp => ?_) (fun s H C' cl fp => (sound x _ _ _ (G.blk s H _ C' cl fp) h7).1) (notSet_ok h4 X.env))
    split at h6; (case h_3 => cases h6)
    · exact pts_yes h6
    · simp only [Bool.and_eq_true, Bool.not_eq_true'] at h6
      exact pts_one ((sound c _ _ _ (G.blk s H _ C' cl fp) h6.2).2 h6.1)
  | .comp2 own t it c own1 t1 it1 c1 x, L, e, X, G, h => by
    simp only [okE] at h; split at h; (case h_2 => cases h)
    simp only [Bool.and_eq_true, decide_eq_true_eq] at h
    obtain ⟨⟨⟨⟨⟨⟨⟨rfl, h1⟩, h2⟩, h3⟩, h4⟩, h5⟩, h6⟩, ⟨⟨⟨⟨⟨⟨rfl, g1⟩, g2⟩, g3⟩, g4⟩, g5⟩, g6⟩, h7⟩ := h
    refine pt_plain rfl (s_comp2 G (soundI it L _ _ X G h5) (by rw [G.hN, G.sc]; exact blkOk_by h1) (slots_ok h3) (slots_ok g1) (slots_ok g3) (fun s H C' cl fp => s_bind (G.blk s H _ C' cl fp) t _ h2) (fun s H C' cl fp => ?_)
      (fun s H C' cl fp => soundI it1 _ _ _ _ (G.blk s H _ C' cl fp) g5) (fun s H C' cl fp => s_bind (G.blk s H _ C' cl fp) t1 _ g2) (fun s H C' cl fp => ?_) (fun s H C' cl fp => (sound x _ _ _ (G.blk s H _ C' cl fp) h7).1) (notSet_ok h4 X.env) (fun env => notSet_ok g4 env))
    · split at h6; (case h_3 => cases h6)
      · exact pts_yes h6
      · simp only [Bool.and_eq_true, Bool.not_eq_true'] at h6
        exact pts_one ((sound c _ _ _ (G.blk s H _ C' cl fp) h6.2).2 h6.1)
    · split at g6; (case h_3 => cases g6)
      · exact pts_yes g6
      · simp only [Bool.and_eq_true, Bool.not_eq_true'] at g6
        exact pts_one ((sound c1 _ _ _ (G.blk s H _ C' cl fp) g6.2).2 g6.1)
theorem soundL : ∀ (xs : List Q.X) (L : Lv) (es : List Expr) (X : Cx), Good g C T k L X → okL g xs L es = true → All2 (SA X T C) xs es
  | [], L, es, X, G, h => by
    cases es with
    | nil => exact .nil
    | cons _ _ => simp [okL] at h
  | x :: xs, L, es, X, G, h => by
    by_cases hx : starX x = true
    · cases x <;> simp only [starX, Bool.false_eq_true] at hx
      rename_i a
      simp only [okL] at h; split at h; (case h_2 => cases h)
      simp only [Bool.and_eq_true] at h
      exact .cons (.inl ⟨_, _, _, rfl, rfl, (sound a L _ X G h.1).1⟩) (soundL xs L _ X G h.2)
    · cases es with
      | nil => cases x <;> first | (simp [okL] at h; done) | (simp [starX] at hx)
      | cons e es =>
        have h' : (okE g x L e && okL g xs L es) = true := by
          cases x <;> first | exact h | (simp [starX] at hx)
        simp only [Bool.and_eq_true] at h'
        exact .cons (sa_of h'.1 (sound x L _ X G h'.1)) (soundL xs L _ X G h'.2)
theorem soundD : ∀ (xs : List Q.X) (L : Lv) (ks : List (Option Expr)) (vs : List Expr) (pos : Pos) (X : Cx), Good g C T k L X → okD g xs L ks vs = true → PPs X pos ks vs (trsOf X.K T C xs) ∧ ks.all (·.isSome) = true ∧ ks.length = vs.length
  | [], L, ks, vs, pos, X, G, h => by
    simp only [okD, Bool.and_eq_true, List.isEmpty_iff] at h
    obtain ⟨rfl, rfl⟩ := h
    exact ⟨pps_nil, rfl, rfl⟩
  | [_], L, ks, vs, pos, X, G, h => by simp [okD] at h
  | x :: y :: xs, L, ks, vs, pos, X, G, h => by
    simp only [okD] at h; split at h; (case h_2 => cases h)
    simp only [Bool.and_eq_true] at h
    obtain ⟨q1, q2, q3⟩ := soundD xs L _ _ pos X G h.2
    exact ⟨pps_cons (sound x L _ X G h.1.1).1 (sound y L _ X G h.1.2).1 q1, by simpa using q2, by simp [q3]⟩
theorem soundI : ∀ (it : Q.It) (L : Lv) (tg e : Expr) (X : Cx), Good g C T k L X → okI g it L tg e = true → PI X tg e (tIt X.K T C it)
  | .seq a, L, tg, e, X, G, h => by
    simp only [okI] at h
    exact s_seq (sound a L _ X G h).1
  | .rng1 a, L, tg, e, X, G, h => by
    simp only [okI] at h; split at h; (case h_2 => cases h)
    simp only [Bool.and_eq_true, Bool.not_eq_true', decide_eq_true_eq] at h
    obtain ⟨⟨⟨rfl, h1⟩, h2⟩, h3⟩ := h
    exact s_rng1 (p2 := ⟨0, 0, 0, 0⟩) G h1 h2 (sound a L _ X G h3).1
  | .rng2 a b, L, tg, e, X, G, h => by
    simp only [okI] at h; split at h; (case h_2 => cases h)
    simp only [Bool.and_eq_true, Bool.not_eq_true', decide_eq_true_eq] at h
    obtain ⟨⟨⟨⟨⟨rfl, h1⟩, h2⟩, h3⟩, h4⟩, h5⟩ := h
    exact s_rng2 (p2 := ⟨0, 0, 0, 0⟩) G h1 h2 h3 (sound a L _ X G h4).1 (sound b L _ X G h5).1
  | .enum _, _, _, _, _, _, h => by simp [okI] at h
  | .zip _ _, _, _, _, _, _, h => by simp [okI] at h
  | .chars a, L, tg, e, X, G, h => by
    simp only [okI] at h
    exact s_chars (sound a L _ X G h).1
end
end
end Q

/-! QSnd8: statements. -/
namespace Q
open PySem PySem.Spec PyProof.Rows L2

def compB : Expr → Bool
  | .ListComp _ _ _ _ => true
  | .SetComp _ _ _ _ => true
  | .DictComp _ _ _ _ _ => true
  | _ => false
theorem sw_no {e : Expr} (h : compB e = false) (t : Option Expr) (l : Nat) (env : PySem.Env) : swapsWith e t l env = pure false := by
  cases e <;> first | rfl | (simp [compB] at h)
theorem sw_tup {e : Expr} {es : List Expr} {k : Nat} {p : Pos} (l : Nat) (env : PySem.Env) : swapsWith e (some (.Tuple es k p)) l env = pure false := by
  cases e <;> rfl
theorem sw_sub {e a b : Expr} {p : Pos} (l : Nat) (env : PySem.Env) : swapsWith e (some (.Subscript a b p)) l env = pure false := by
  cases e <;> rfl
def swB (sc : Scope) (y : Str) (py : Pos) (scope : Scope) (pos : Pos) : Bool := sc.names.lookup y == some .local && py.line == pos.line && !(scope.names.any fun (n, k) => n == y && (k == .local || k == .cell))
theorem sw_val {elt : Expr} {gs : List Comprehension} {scope : Scope} {pos py : Pos} {y : Str} {l : Nat} {env : PySem.Env} (hk : env.scope.kind = .function) (h : swB env.scope y py scope pos = false) : swapsWith (.ListComp elt gs scope pos) (some (.Name y py)) l env = pure false := by
  have hb : env.blockKind = .function := by unfold Env.blockKind; rw [hk]; rfl
  have e : swapsWith (.ListComp elt gs scope pos) (some (.Name y py)) l env = pure (env.blockKind == .function && env.kindOf y == some .local && py.line == pos.line && !(scope.names.any fun (n, k) => n == y && (k == .local || k == .cell))) := rfl
  rw [e, hb]
  unfold swB at h
  have q : (ScopeKind.function == ScopeKind.function && env.kindOf y == some .local && py.line == pos.line && !(scope.names.any fun (n, k) => n == y && (k == .local || k == .cell))) = false := by
    rw [show (ScopeKind.function == ScopeKind.function) = true from rfl, Bool.true_and]
    exact h
  rw [q]
/-- no stores from the right -/
def farT (sc : Scope) : Expr → Bool
  | .Name x _ => !(sc.names.lookup x == some .local)
  | _ => true
def swN (sc : Scope) (tg e : Expr) : Bool := match tg, e with
  | .Tuple ts _ _, .Tuple vs _ _ => !(ts.length == 2 || ts.length == 3) || vs.length != ts.length || vs.all (foldedForSure 8) || ts.any (farT sc)
  | .List _ _, _ => false
  | _, _ => true
theorem sw_none {tg e : Expr} {env : PySem.Env} (h : swN env.scope tg e = true) : swappedStores [tg] e env = pure none := by
  cases tg
  case Tuple ts a b =>
    cases e
    case Tuple vs c d =>
      simp only [swN, Bool.or_eq_true] at h
      unfold swappedStores
      dsimp only
      split
      · rfl
      · rename_i h1
        have h2 : vs.all (foldedForSure 8) = true ∨ ts.any (farT env.scope) = true := by
          simp only [Bool.or_eq_true, not_or] at h1
          rcases h with ((h | h) | h) | h
          · exact absurd h h1.1.1
          · exact absurd h h1.1.2
          · exact .inl h
          · exact .inr h
        split
        · rfl
        · split
          · rfl
          · rename_i h3
            rcases h2 with h2 | h2
            · first | rfl | rw [if_pos h2]
            · exfalso
              simp only [Bool.or_eq_true, not_or, bne_iff_ne, ne_eq, Decidable.not_not] at h3
              have q := List.filterMap_length_eq_length.mp h3.1
              obtain ⟨t, ht, hf⟩ := List.any_eq_true.mp h2
              have q2 := q t ht
              cases t <;> first | (cases q2; done) | skip
              rename_i x p
              simp only [farT, Bool.not_eq_true'] at hf
              have hk : (env.kindOf x == some NameKind.local) = false := hf
              simp [hk] at q2
    all_goals rfl
  case List ts a => simp [swN] at h
  all_goals rfl
section
variable (K : PySem.W.Frag) (T : List (Addr × Str)) (C : Ctx)
/-- what is wanted behind what a statement has done -/
def post (ρ : List Addr) (Z : Addr → Prop) (H : Hp) (r : Fl × Env × Store) (D : Ends) : Prop :=
  match r.1 with
  | .next => ∀ ρ' Z' H' σ', Fr ρ Z H ρ' Z' H' → RelS K T ρ' Z' r.2.2 H' → RelE K ρ' Z' H' r.2.1 σ' → D.nx σ' H'
  | .ret d => ∀ ρ' Z' H' v, Fr ρ Z H ρ' Z' H' → RelS K T ρ' Z' r.2.2 H' → Rep K ρ' Z' H' d v → D.rt v H'
def tRunS (f : Env → Store → RS) : TS := fun D σ H => ∃ ρ Z st env r, RelS K T ρ Z st H ∧ RelE K ρ Z H env σ ∧ f env st = some r ∧ post K T ρ Z H r D
end
section
variable {K : PySem.W.Frag} {T : List (Addr × Str)} {C : Ctx} {ρ ρ1 : List Addr} {Z Z1 : Addr → Prop} {H H1 : Hp} {E : Ends} {r : Fl × Env × Store}
theorem post.mono (f : Fr ρ Z H ρ1 Z1 H1) (h : post K T ρ Z H r E) : post K T ρ1 Z1 H1 r E := by
  unfold post at h ⊢
  split
  · rename_i e
    rw [e] at h
    exact fun ρ' Z' H' σ' f' => h ρ' Z' H' σ' (f.trans f')
  · rename_i d e
    rw [e] at h
    exact fun ρ' Z' H' v f' => h ρ' Z' H' v (f.trans f')
theorem post.nx {env : Env} {st : Store} (h : post K T ρ Z H (.next, env, st) E) {ρ' : List Addr} {Z' : Addr → Prop} {H' : Hp} {σ' : L2.St} (f : Fr ρ Z H ρ' Z' H') (rs : RelS K T ρ' Z' st H') (re : RelE K ρ' Z' H' env σ') : E.nx σ' H' := h ρ' Z' H' σ' f rs re
theorem post.rt {env : Env} {d : _root_.Q.D} {st : Store} (h : post K T ρ Z H (.ret d, env, st) E) {ρ' : List Addr} {Z' : Addr → Prop} {H' : Hp} {v : V} (f : Fr ρ Z H ρ' Z' H') (rs : RelS K T ρ' Z' st H') (q : Rep K ρ' Z' H' d v) : E.rt v H' := h ρ' Z' H' v f rs q
theorem RelE.lt {env : Env} {σ : L2.St} {i : Nat} (h : RelE K ρ Z H env σ) (hi : i < env.length) : i < σ.length := by rw [← h.1]; exact hi
end
section
variable {g : Sig} {C : Ctx} {T : List (Addr × Str)} {k : Nat} {L : Lv} {X : Cx} {e tg : Expr} {x : Q.X} {t : Tt} {pos : Pos}
theorem p_nil : PSs X [] (tRunS X.K T (exL C [])) := ⟨fun pins s σ H D I hw => pss_nil.run pins s σ H D I (by
  obtain ⟨ρ, Z, st, env, r, rs, re, h, p⟩ := hw
  simp only [exL] at h
  cases h
  exact post.nx p .refl rs re)⟩
theorem _root_.L2.PSs.imp {X : Cx} {e : List Stmt} {t t' : TS} (h : PSs X e t) (i : ∀ D σ H, t' D σ H → t D σ H) : PSs X e t' := ⟨fun pins s σ H D I hw => h.run pins s σ H D I (i D σ H hw)⟩
theorem p_cons {s : S} {ss : List S} {a : Stmt} {as : List Stmt} (h1 : PS X a (tRunS X.K T (exS C s))) (h2 : PSs X as (tRunS X.K T (exL C ss))) : PSs X (a :: as) (tRunS X.K T (exL C (s :: ss))) := (pss_cons h1 h2).imp fun D σ H hw => by
  obtain ⟨ρ, Z, st, env, r, rs, re, h, p⟩ := hw
  simp only [exL, Option.bind_eq_some_iff] at h
  obtain ⟨⟨fl, env1, st1⟩, h1, h2⟩ := h
  refine ⟨ρ, Z, st, env, _, rs, re, h1, ?_⟩
  cases fl with
  | ret d =>
    simp only at h2
    cases h2
    exact fun ρ' Z' H' v f r' q => post.rt p f r' q
  | next =>
    simp only at h2
    exact fun ρ' Z' H' σ' f r' e' => ⟨ρ', Z', st1, env1, r, r', e', h2, p.mono f⟩
theorem s_pass : PS X (.Pass pos) (tRunS X.K T (exS C .pass)) := ps_pass.imp fun D σ H hw => by
  obtain ⟨ρ, Z, st, env, r, rs, re, h, p⟩ := hw
  simp only [exS] at h
  cases h
  exact post.nx p .refl rs re
theorem s_doc {z : Str} {j : Nat} {p2 : Pos} : PS X (.Expr (.Constant (.str z) j p2) pos) (tRunS X.K T (exS C .pass)) := ps_doc.imp fun D σ H hw => by
  obtain ⟨ρ, Z, st, env, r, rs, re, h, p⟩ := hw
  simp only [exS] at h
  cases h
  exact post.nx p .refl rs re
mutual
theorem stT_bind : ∀ {t : Tt} {e : Expr} {d : D} {env : Env} {st : Store}, okB L t e = true → stT C t d env st = (bindT t d env).map fun env' => (env', st)
  | .name i, e, d, env, st, h => by
    simp only [stT, bindT]
    split <;> rfl
  | .tup ts, e, d, env, st, h => by
    cases e <;> first | (simp [okB] at h; done) | skip
    rename_i es j p
    simp only [okB, Bool.and_eq_true, decide_eq_true_eq] at h
    cases d <;> simp only [stT, bindT] <;> try rfl
    split
    · exact stTs_bind h.2
    · rfl
  | .sub _ _, e, d, env, st, h => by simp [okB] at h
  | .subK _ _, e, d, env, st, h => by simp [okB] at h
theorem stTs_bind : ∀ {ts : List Tt} {es : List Expr} {ds : List D} {env : Env} {st : Store}, okBs L ts es = true → stTs C ts ds env st = (bindTs ts ds env).map fun env' => (env', st)
  | [], es, ds, env, st, h => by
    cases ds <;> simp only [stTs, bindTs] <;> rfl
  | t :: ts, es, ds, env, st, h => by
    cases es <;> first | (simp [okBs] at h; done) | skip
    simp only [okBs, Bool.and_eq_true] at h
    cases ds with
    | nil => simp only [stTs, bindTs]; rfl
    | cons d ds =>
      simp only [stTs, bindTs]
      rw [stT_bind h.1]
      cases q : bindT t d env with
      | none => rfl
      | some env1 =>
        show stTs C ts ds env1 st = _
        rw [stTs_bind h.2]; rfl
end
theorem asg_sub {o i : Expr} {p2 : Pos} {env : PySem.Env} (h : plainIxB i = true) (v : Value) : assign (.Subscript o i p2) env v = (do
      let ov ← holding [v] (eval o env)
      let iv ← holding [v, ov] (eval i env)
      standAt p2
      holding [v, ov, iv] (setItem ov iv v)
      release [v, ov, iv] []) := by
  cases i <;> first | rfl | (simp [plainIxB] at h)
theorem i_set {te : TE} {h : okB L t tg = true} (hi : ∀ σ H Q, tEv X.K T C x σ H Q → te σ H Q) {D : Ends} {σ : L2.St} {H : Hp} (hw : tRunS X.K T (exS C (.set t x)) D σ H) : tAsg te (tBd X.K t) D σ H := by
  obtain ⟨ρ, Z, st, env, r, rs, re, h1, p⟩ := hw
  simp only [exS, Option.bind_eq_some_iff, Option.map_eq_some_iff] at h1
  obtain ⟨⟨d, st1⟩, h2, ⟨env1, st2⟩, h3, h4⟩ := h1
  cases h4
  rw [stT_bind h] at h3
  obtain ⟨env2, h5, h6⟩ := Option.map_eq_some_iff.mp h3
  cases h6
  refine hi _ _ _ (tEv.go rs re h2 fun ρ' Z' H' v f r' e' q => ?_)
  exact ⟨ρ', Z', env, d, env1, r'.sub, e', q, h5, fun σ2 re2 _ _ => post.nx p f r' re2⟩
theorem s_set (G : Good g C T k L X) (h : okB L t tg = true) (he : PE X e (tEv X.K T C x)) (hs : swapsWithSole [tg] e pos.line X.env = pure false) (hw : swappedStores [tg] e X.env = pure none) : PS X (.Assign [tg] e pos) (tRunS X.K T (exS C (.set t x))) :=
  (ps_asg he (s_bind G t tg h) hs hw (by rw [asg_cons (okB_plain h)]; rfl)).imp fun D σ H hw => i_set (h := h) (fun _ _ _ z => z) hw
theorem i_name {te : TE} {i : Nat} (hi : ∀ σ H Q, tEv X.K T C x σ H Q → te σ H Q) {D : Ends} {σ : L2.St} {H : Hp} (hw : tRunS X.K T (exS C (.set (.name i) x)) D σ H) : tAsg te (gName i) D σ H := by
  obtain ⟨ρ, Z, st, env, r, rs, re, h1, p⟩ := hw
  simp only [exS, Option.bind_eq_some_iff, Option.map_eq_some_iff] at h1
  obtain ⟨⟨d, st1⟩, h2, ⟨env1, st2⟩, h3, h4⟩ := h1
  cases h4
  simp only [stT] at h3
  split at h3
  · cases h3
    exact hi _ _ _ (tEv.go rs re h2 fun ρ' Z' H' v f r' e' q => post.nx p f r' (e'.set q))
  · cases h3
theorem i_putL {a i : Q.X} {D : Ends} {σ : L2.St} {H : Hp} (hw : tRunS X.K T (exS C (.set (.sub a i) x)) D σ H) : tAsg (tEv X.K T C x) (gSub (tEv X.K T C a) (tEv X.K T C i) rSetL) D σ H := by
  obtain ⟨ρ, Z, st, env, r, rs, re, h1, p⟩ := hw
  simp only [exS, Option.bind_eq_some_iff, Option.map_eq_some_iff] at h1
  obtain ⟨⟨d, st1⟩, h2, ⟨env1, st2⟩, h3, h4⟩ := h1
  cases h4
  simp only [stT, Option.bind_eq_some_iff, Option.map_eq_some_iff] at h3
  obtain ⟨⟨o, st3⟩, h5, ⟨y, st4⟩, h6, st5, h7, h8⟩ := h3
  cases h8
  refine tEv.go rs re h2 fun ρ1 Z1 H1 v f1 r1 e1 q1 => ?_
  refine tEv.go r1 e1 h5 fun ρ2 Z2 H2 w f2 r2 e2 q2 => tEv.go r2 e2 h6 fun ρ3 Z3 H3 u f3 r3 e3 q3 => ?_
  have q1' := Rep.mono r2.sub f3 _ _ (Rep.mono r1.sub f2 _ _ q1)
  have q2' := Rep.mono r2.sub f3 _ _ q2
  dsimp only at h7 p
  unfold putL at h7
  split at h7
  · rename_i n kk
    split at h7
    · rename_i ds hd
      simp only [setAt, Option.map_map, Option.map_eq_some_iff] at h7
      obtain ⟨j, h8, h9⟩ := h7
      simp only [Function.comp_apply] at h9
      subst h9
      obtain ⟨p0, vs, rfl, a1, a2, a3⟩ := loc_lst r3 q2' hd
      simp only [Rep] at q3
      subst q3
      obtain ⟨f4, r4⟩ := put_lst r3 a1 a2 (a3.set j q1')
      exact ⟨p0, vs, kk, j, rfl, rfl, a2, by rw [← a3.len]; exact h8, post.nx p (((f1.trans f2).trans f3).trans f4) r4 (e3.mono r3.sub f4)⟩
    · cases h7
  · cases h7
theorem i_putK {a i : Q.X} {D : Ends} {σ : L2.St} {H : Hp} (hw : tRunS X.K T (exS C (.set (.subK a i) x)) D σ H) : tAsg (tEv X.K T C x) (gSub (tEv X.K T C a) (tEv X.K T C i) rSetD) D σ H := by
  obtain ⟨ρ, Z, st, env, r, rs, re, h1, p⟩ := hw
  simp only [exS, Option.bind_eq_some_iff, Option.map_eq_some_iff] at h1
  obtain ⟨⟨d, st1⟩, h2, ⟨env1, st2⟩, h3, h4⟩ := h1
  cases h4
  simp only [stT, Option.bind_eq_some_iff, Option.map_eq_some_iff] at h3
  obtain ⟨⟨o, st3⟩, h5, ⟨y, st4⟩, h6, st5, h7, h8⟩ := h3
  cases h8
  refine tEv.go rs re h2 fun ρ1 Z1 H1 v f1 r1 e1 q1 => ?_
  refine tEv.go r1 e1 h5 fun ρ2 Z2 H2 w f2 r2 e2 q2 => tEv.go r2 e2 h6 fun ρ3 Z3 H3 u f3 r3 e3 q3 => ?_
  have q1' := Rep.mono r2.sub f3 _ _ (Rep.mono r1.sub f2 _ _ q1)
  have q2' := Rep.mono r2.sub f3 _ _ q2
  dsimp only at h7 p
  unfold putK at h7
  split at h7
  · rename_i n
    split at h7
    · rename_i kvs hd
      simp only [Option.bind_eq_some_iff] at h7
      obtain ⟨ky, h8, h9⟩ := h7
      split at h9
      · rename_i hl
        cases h9
        obtain ⟨p0, ws, rfl, a1, a2, a3⟩ := loc_dct r3 q2' hd
        obtain ⟨f4, r4⟩ := put_dct r3 a1 a2 (put_rep a3 q1' (key_str q3 h8))
        have hlen : kvs.length = ws.length := by have := congrArg List.length a3.1; simpa using this
        rw [rep_key q3 h8]
        exact ⟨p0, _, rfl, DPut.k a2 (by rw [← hlen]; exact hl), post.nx p (((f1.trans f2).trans f3).trans f4) r4 (e3.mono r3.sub f4)⟩
      · cases h9
    · cases h7
  · cases h7
theorem s_putL {o i : Expr} {a b : Q.X} {p2 : Pos} (hx : plainIxB i = true) (ho : PE X o (tEv X.K T C a)) (hi : PE X i (tEv X.K T C b)) (he : PE X e (tEv X.K T C x)) (hw : swappedStores [.Subscript o i p2] e X.env = pure none) : PS X (.Assign [.Subscript o i p2] e pos) (tRunS X.K T (exS C (.set (.sub a b) x))) :=
  (ps_asg he (pg_sub ho hi set_list (asg_sub hx)) (sw_sub (a := o) (b := i) (p := p2) pos.line X.env) hw).imp fun D σ H hw => i_putL hw
theorem s_putK {o i : Expr} {a b : Q.X} {p2 : Pos} (G : Good g C T k L X) (hx : plainIxB i = true) (ho : PE X o (tEv X.K T C a)) (hi : PE X i (tEv X.K T C b)) (he : PE X e (tEv X.K T C x)) (hw : swappedStores [.Subscript o i p2] e X.env = pure none) : PS X (.Assign [.Subscript o i p2] e pos) (tRunS X.K T (exS C (.set (.subK a b) x))) :=
  (ps_asg he (pg_sub ho hi (set_dict G.u1) (asg_sub hx)) (sw_sub (a := o) (b := i) (p := p2) pos.line X.env) hw).imp fun D σ H hw => i_putK hw
theorem s_expr (he : PE X e (tEv X.K T C x)) (hs : compB e = false) : PS X (.Expr e pos) (tRunS X.K T (exS C (.expr x))) := (ps_expr he (sw_no hs _ _ _)).imp fun D σ H hw => by
  obtain ⟨ρ, Z, st, env, r, rs, re, h1, p⟩ := hw
  simp only [exS, Option.map_eq_some_iff] at h1
  obtain ⟨⟨d, st1⟩, h2, h3⟩ := h1
  cases h3
  exact tEv.go rs re h2 fun ρ' Z' H' v f r' e' q => post.nx p f r' e'
theorem s_ret (he : PE X e (tEv X.K T C x)) : PS X (.Return (some e) pos) (tRunS X.K T (exS C (.ret x))) := (ps_ret he).imp fun D σ H hw => by
  obtain ⟨ρ, Z, st, env, r, rs, re, h1, p⟩ := hw
  simp only [exS, Option.map_eq_some_iff] at h1
  obtain ⟨⟨d, st1⟩, h2, h3⟩ := h1
  cases h3
  exact tEv.go rs re h2 fun ρ' Z' H' v f r' e' q => post.rt p f r' q
theorem s_retN : PS X (.Return none pos) (tRunS X.K T (exS C .retN)) := ps_retN.imp fun D σ H hw => by
  obtain ⟨ρ, Z, st, env, r, rs, re, h1, p⟩ := hw
  simp only [exS] at h1
  cases h1
  exact post.rt p .refl rs (by simp [Rep])
theorem s_if {a b : List Stmt} {sa sb : List S} (hc : PT X e (tB (tEv X.K T C x))) (ha : PSs X a (tRunS X.K T (exL C sa))) (hb : PSs X b (tRunS X.K T (exL C sb))) : PS X (.If e a b pos) (tRunS X.K T (exS C (.ite x sa sb))) := (ps_if hc ha hb).imp fun D σ H hw => by
  obtain ⟨ρ, Z, st, env, r, rs, re, h1, p⟩ := hw
  simp only [exS, Option.bind_eq_some_iff] at h1
  obtain ⟨⟨c, st1⟩, h2, h3⟩ := h1
  refine tst rs re h2 fun ρ' Z' H' f r' e' => ?_
  cases c with
  | true => exact iteT ⟨ρ', Z', st1, env, r, r', e', h3, p.mono f⟩
  | false => exact iteF ⟨ρ', Z', st1, env, r, r', e', h3, p.mono f⟩
theorem s_never {a : Stmt} : PS X a (tRunS X.K T (exS C .never)) := ps_never.imp fun D σ H hw => by
  obtain ⟨ρ, Z, st, env, r, rs, re, h1, p⟩ := hw
  simp [exS] at h1
theorem s_for {iter : Expr} {it : Q.It} {b : List S} {body : List Stmt} (G : Good g C T k L X) (hi : PI X tg iter (tIt X.K T C it)) (hg : okB L t tg = true) (hb : PSs X body (tRunS X.K T (exL C b))) (hs : ∀ x, foldedSetIterable iter X.env x = pure x) :
    PS X (.For tg iter body [] pos) (tRunS X.K T (exS C (.for_ t it b))) := (ps_for (by rw [G.never]; exact PassesOwn.never) G.calm hi (s_bind G t tg hg) hb hs).imp fun D σ H hw => by
  obtain ⟨ρ, Z, st, env, r, rs, re, h1, p⟩ := hw
  simp only [exS, Option.bind_eq_some_iff] at h1
  obtain ⟨⟨gd, ds, st1⟩, h2, h3⟩ := h1
  refine ⟨ρ, Z, st, env, gd, ds, st1, rs, re, h2, fun ρ1 Z1 H1 J f1 r1 src => ?_⟩
  refine ⟨fun i m σ H => ∃ ρ Z st env, Fr ρ1 Z1 H1 ρ Z H ∧ RelS X.K T ρ Z st H ∧ RelE X.K ρ Z H env σ ∧ forLoop gd (bindT t) (exL C b) (ds.drop i) env st = some r ∧ m = ds.length - i ∧ i ≤ ds.length, ⟨ds.length, ρ1, Z1, st1, env, .refl, r1, re.mono rs.sub f1, h3, rfl, Nat.zero_le _⟩, ?_⟩
  rintro i m σ2 H2 ⟨ρ2, Z2, st2, env2, f2, r2, e2, hl, rfl, hi⟩
  by_cases hlt : i < ds.length
  · right
    rw [List.drop_eq_getElem_cons hlt] at hl
    unfold forLoop at hl
    split at hl
    · rename_i hgd
      simp only [Option.bind_eq_some_iff] at hl
      obtain ⟨env3, h4, ⟨fl, env4, st4⟩, h5, h6⟩ := hl
      obtain ⟨s1, _, s3⟩ := src ρ2 Z2 st2 H2 (f2.fz r1.sub) r2 hgd
      refine ⟨s1 i hlt, fun σ H => ∃ ρ Z st env, Fr ρ1 Z1 H1 ρ Z H ∧ RelS X.K T ρ Z st H ∧ RelE X.K ρ Z H env σ ∧ forLoop gd (bindT t) (exL C b) (ds.drop (i + 1)) env st = some r, fun σ' H' ⟨ρ', Z', st', env', a1, a2, a3, a4⟩ => ⟨ds.length - (i + 1), by omega, ρ', Z', st', env', a1, a2, a3, a4, rfl, hlt⟩, fun x H' hy => ?_⟩
      obtain ⟨d, q1, f3, r3, qd⟩ := s3 i x H' hlt hy
      have q2 : d = ds[i] := by rw [List.getElem?_eq_getElem hlt] at q1; exact (Option.some.inj q1).symm
      subst q2
      refine ⟨ρ2, Z2, env2, _, env3, r3.sub, e2.mono r2.sub f3, qd, h4, fun σ5 e5 _ _ => ?_⟩
      refine ⟨ρ2, Z2, st2, env3, _, r3, e5, h5, ?_⟩
      have f13 := f2.trans f3
      cases fl with
      | ret d =>
        simp only at h6
        cases h6
        exact fun ρ' Z' H' v f r' q => post.rt (p.mono f1) (f13.trans f) r' q
      | next =>
        simp only at h6
        exact fun ρ' Z' H' σ' f r' e' => ⟨ρ', Z', st4, env4, f13.trans f, r', e', h6⟩
    · cases hl
  · left
    have q : i = ds.length := by omega
    subst q
    rw [List.drop_length] at hl
    unfold forLoop at hl
    split at hl
    · rename_i hgd
      cases hl
      exact ⟨(src ρ2 Z2 st2 H2 (f2.fz r1.sub) r2 hgd).2.1, (p.mono f1).nx f2 r2 e2⟩
    · cases hl
theorem s_while {b : List S} {body : List Stmt} (G : Good g C T k L X) (hc : PT X e (tB (tEv X.K T C x))) (hb : PSs X body (tRunS X.K T (exL C b))) : PS X (.While e body [] pos) (tRunS X.K T (exS C (.while_ x b))) := (ps_while (by rw [G.never]; exact PassesOwn.never) hc hb).imp fun D σ H hw => by
  obtain ⟨ρ, Z, st, env, r, rs, re, h1, p⟩ := hw
  simp only [exS] at h1
  refine ⟨fun m σ H2 => ∃ ρ2 Z2 st env, Fr ρ Z H ρ2 Z2 H2 ∧ RelS X.K T ρ2 Z2 st H2 ∧ RelE X.K ρ2 Z2 H2 env σ ∧ whileLoop (fun env st => asB (ev C x env st)) (exL C b) m env st = some r, ⟨C.turns, ρ, Z, st, env, .refl, rs, re, h1⟩, ?_⟩
  rintro m σ2 H2 ⟨ρ2, Z2, st2, env2, f2, r2, e2, hl⟩
  cases m with
  | zero => simp [whileLoop] at hl
  | succ m =>
    simp only [whileLoop, Option.bind_eq_some_iff] at hl
    obtain ⟨⟨c, st3⟩, h2, h3⟩ := hl
    refine tst r2 e2 h2 fun ρ3 Z3 H3 f3 r3 e3 => ?_
    cases c with
    | false =>
      simp only at h3
      cases h3
      exact iteF (post.nx p (f2.trans f3) r3 e3)
    | true =>
      simp only [Option.bind_eq_some_iff] at h3
      obtain ⟨⟨fl, env4, st4⟩, h4, h5⟩ := h3
      refine iteT ⟨fun σ' H' => ∃ ρ2 Z2 st env, Fr ρ Z H ρ2 Z2 H' ∧ RelS X.K T ρ2 Z2 st H' ∧ RelE X.K ρ2 Z2 H' env σ' ∧ whileLoop (fun env st => asB (ev C x env st)) (exL C b) m env st = some r, fun σ' H' hN => ⟨m, Nat.lt_succ_self m, hN⟩, ?_⟩
      refine ⟨ρ3, Z3, st3, env2, _, r3, e3, h4, ?_⟩
      cases fl with
      | ret d =>
        simp only at h5
        cases h5
        exact fun ρ' Z' H' v f r' q => post.rt p ((f2.trans f3).trans f) r' q
      | next =>
        simp only at h5
        exact fun ρ' Z' H' σ' f r' e' => ⟨ρ', Z', st4, env4, (f2.trans f3).trans f, r', e', h5⟩
theorem i_aug {i : Nat} {op : Operator} {f : Int → Int → Int} (hof : (op = .Add ∧ f = fun x y => x + y) ∨ (op = .Sub ∧ f = fun x y => x - y)) {D : Ends} {σ : L2.St} {H : Hp} (hw : tRunS X.K T (exS C (.aug i op x)) D σ H) : tAug i (tEv X.K T C x) (ipI f) D σ H := by
  obtain ⟨ρ, Z, st, env, r, rs, re, h1, p⟩ := hw
  simp only [exS] at h1
  split at h1
  · rename_i n hn
    simp only [Option.bind_eq_some_iff] at h1
    obtain ⟨⟨d, st1⟩, h2, h3⟩ := h1
    obtain ⟨v, hv, qv⟩ := re.2 i _ hn
    simp only [Rep] at qv
    subst qv
    refine ⟨_, hv, tEv.go rs re h2 fun ρ' Z' H' u f r' e' q => ?_⟩
    rcases hof with ⟨rfl, rfl⟩ | ⟨rfl, rfl⟩
    · cases d <;> simp only at h3 <;> cases h3
      simp only [Rep] at q
      exact ⟨n, _, rfl, q, post.nx p f r' (e'.set (by simp [Rep]))⟩
    · cases d <;> simp only at h3 <;> cases h3
      simp only [Rep] at q
      exact ⟨n, _, rfl, q, post.nx p f r' (e'.set (by simp [Rep]))⟩
  · cases h1
theorem s_aug {i : Nat} {y : Str} {op : Operator} {p2 : Pos} (G : Good g C T k L X) (hn : L.N[i]? = some y) (hl : locB L.sc y = true) (hf : (L.fn y || L.sc.names.lookup y == some .local) = true) (ho : op = .Add ∨ op = .Sub) (he : PE X e (tEv X.K T C x)) :
    PS X (.AugAssign (.Name y p2) op e pos) (tRunS X.K T (exS C (.aug i op x))) := by
  have hloc : Loc X.env.scope y := by rw [G.sc]; exact locB_ok hl
  have hf' : X.fn y = true ∨ X.env.scope.names.lookup y = some .local := by
    simp only [Bool.or_eq_true, beq_iff_eq] at hf
    rcases hf with h | h
    · exact .inl (G.fn y h)
    · rw [G.sc]; exact .inr h
  rcases ho with rfl | rfl
  · exact (ps_aug (by rw [G.hN]; exact G.nd) (by rw [G.hN]; exact hn) hloc he ip_add hf').imp fun D σ H hw => i_aug (.inl ⟨rfl, rfl⟩) hw
  · exact (ps_aug (by rw [G.hN]; exact G.nd) (by rw [G.hN]; exact hn) hloc he ip_sub hf').imp fun D σ H hw => i_aug (.inr ⟨rfl, rfl⟩) hw
/-! ### pairs and triples stored from the right -/
def isLoc (sc : Scope) (x : Str) : Bool := sc.names.lookup x == some .local
def plain2 (a b : Expr) : Bool := !starP a && !starP b && !(foldedForSure 8 a && foldedForSure 8 b) && !(constantsAlone 8 a && constantsAlone 8 b)
theorem sw_two {x y : Str} {px py pt pt2 : Pos} {kt k2 : Nat} {a b : Expr} {env : PySem.Env} (hk : env.scope.kind = .function) (hx : env.scope.names.lookup x = some .local) (hy : env.scope.names.lookup y = some .local) (hl : py.line = px.line) (hn : x ≠ y) (hp : plain2 a b = true) :
    swappedStores [.Tuple [.Name x px, .Name y py] kt pt] (.Tuple [a, b] k2 pt2) env = pure (some [x, y]) := by
  have hb : env.blockKind = .function := by unfold Env.blockKind; rw [hk]; rfl
  have kx : env.kindOf x = some .local := hx
  have ky : env.kindOf y = some .local := hy
  unfold plain2 at hp
  simp only [Bool.and_eq_true, Bool.not_eq_true'] at hp
  obtain ⟨⟨⟨h1, h2⟩, h3⟩, h4⟩ := hp
  have hst : ∀ {f : Expr → Bool}, (∀ e, starP e = false → f e = false) → ([a, b].any f) = false := fun {f} hf => by simp [hf a h1, hf b h2]
  unfold swappedStores
  dsimp only
  rw [if_neg (by simp [hb]), if_neg (by rw [hst fun e he => by cases e <;> first | rfl | (simp [starP] at he)]; exact Bool.false_ne_true)]
  have en : ([x, y] : List Str).eraseDups = [x, y] := by simp [List.eraseDups_cons, Ne.symm hn]
  simp only [List.filterMap_cons, List.filterMap_nil, kx, ky, List.head?_cons, Option.map_some, Option.getD_some, Expr.pos, hl, BEq.rfl, Bool.and_self, if_true, List.all_cons, List.all_nil, Bool.and_true]
  rw [if_neg (by simp [en]), if_neg (by simp [h3]), if_neg (by simp [h4])]
def plain3 (a b c : Expr) : Bool := !starP a && !starP b && !starP c && !(foldedForSure 8 a && (foldedForSure 8 b && foldedForSure 8 c)) && !(constantsAlone 8 a && (constantsAlone 8 b && constantsAlone 8 c))
theorem sw_three {x y z : Str} {px py pz pt pt2 : Pos} {kt k2 : Nat} {a b c : Expr} {env : PySem.Env} (hk : env.scope.kind = .function) (hx : env.scope.names.lookup x = some .local) (hy : env.scope.names.lookup y = some .local) (hz : env.scope.names.lookup z = some .local) (hl : py.line = px.line) (hl2 : pz.line = px.line) (hn : x ≠ y) (hn2 : x ≠ z) (hn3 : y ≠ z) (hp : plain3 a b c = true) :
    swappedStores [.Tuple [.Name x px, .Name y py, .Name z pz] kt pt] (.Tuple [a, b, c] k2 pt2) env = pure (some [x, y, z]) := by
  have hb : env.blockKind = .function := by unfold Env.blockKind; rw [hk]; rfl
  have kx : env.kindOf x = some .local := hx
  have ky : env.kindOf y = some .local := hy
  have kz : env.kindOf z = some .local := hz
  unfold plain3 at hp
  simp only [Bool.and_eq_true, Bool.not_eq_true'] at hp
  obtain ⟨⟨⟨⟨h1, h2⟩, h5⟩, h3⟩, h4⟩ := hp
  have hst : ∀ {f : Expr → Bool}, (∀ e, starP e = false → f e = false) → ([a, b, c].any f) = false := fun {f} hf => by simp [hf a h1, hf b h2, hf c h5]
  unfold swappedStores
  dsimp only
  rw [if_neg (by simp [hb]), if_neg (by rw [hst fun e he => by cases e <;> first | rfl | (simp [starP] at he)]; exact Bool.false_ne_true)]
  have en : ([x, y, z] : List Str).eraseDups = [x, y, z] := by simp [List.eraseDups_cons, Ne.symm hn, Ne.symm hn2, Ne.symm hn3]
  simp only [List.filterMap_cons, List.filterMap_nil, kx, ky, kz, List.head?_cons, Option.map_some, Option.getD_some, Expr.pos, hl, hl2, BEq.rfl, Bool.and_self, if_true, List.all_cons, List.all_nil, Bool.and_true]
  rw [if_neg (by simp [en]), if_neg (by simp [h3]), if_neg (by simp [h4])]
theorem i_par2 {i j : Nat} {xs : List Q.X} {D : Ends} {σ : L2.St} {H : Hp} (hw : tRunS X.K T (exS C (.par [i, j] xs)) D σ H) : tPar i j (tEvL X.K T C xs) D σ H := by
  obtain ⟨ρ, Z, st, env, r, rs, re, h1, p⟩ := hw
  simp only [exS, Option.bind_eq_some_iff, Option.map_eq_some_iff] at h1
  obtain ⟨⟨ds, st1⟩, h2, env1, h3, h4⟩ := h1
  cases h4
  refine ⟨ρ, Z, st, env, ds, st1, rs, re, h2, fun ρ' Z' H' vs f r' q => ?_⟩
  have e' := re.mono rs.sub f
  cases ds with
  | nil => simp [setAll] at h3
  | cons d1 ds =>
    cases ds with
    | nil => simp only [setAll] at h3; split at h3 <;> cases h3
    | cons d2 ds =>
      cases ds with
      | cons _ _ => simp only [setAll] at h3; split at h3 <;> (try split at h3) <;> cases h3
      | nil =>
        simp only [Reps] at q
        obtain ⟨v, _, rfl, q1, w, _, rfl, q2, rfl⟩ := q
        simp only [setAll] at h3
        split at h3
        · split at h3
          · cases h3
            exact ⟨v, w, rfl, post.nx p f r' ((e'.set q1).set q2)⟩
          · cases h3
        · cases h3
theorem i_par3 {i j l : Nat} {xs : List Q.X} {D : Ends} {σ : L2.St} {H : Hp} (hw : tRunS X.K T (exS C (.par [i, j, l] xs)) D σ H) : tPar3 i j l (tEvL X.K T C xs) D σ H := by
  obtain ⟨ρ, Z, st, env, r, rs, re, h1, p⟩ := hw
  simp only [exS, Option.bind_eq_some_iff, Option.map_eq_some_iff] at h1
  obtain ⟨⟨ds, st1⟩, h2, env1, h3, h4⟩ := h1
  cases h4
  refine ⟨ρ, Z, st, env, ds, st1, rs, re, h2, fun ρ' Z' H' vs f r' q => ?_⟩
  have e' := re.mono rs.sub f
  rcases ds with _ | ⟨d1, _ | ⟨d2, _ | ⟨d3, _ | ⟨_, _⟩⟩⟩⟩
  · simp [setAll] at h3
  · simp only [setAll] at h3; split at h3 <;> cases h3
  · simp only [setAll] at h3; split at h3 <;> (try split at h3) <;> cases h3
  · simp only [Reps] at q
    obtain ⟨v, _, rfl, q1, w, _, rfl, q2, u, _, rfl, q3, rfl⟩ := q
    simp only [setAll] at h3
    split at h3
    · split at h3
      · split at h3
        · cases h3
          exact ⟨v, w, u, rfl, post.nx p f r' (((e'.set q1).set q2).set q3)⟩
        · cases h3
      · cases h3
    · cases h3
  · simp only [setAll] at h3; split at h3 <;> (try split at h3) <;> (try split at h3) <;> cases h3
end
/-! ### name = [..] on one line -/
section
variable {g : Sig} {C : Ctx} {T : List (Addr × Str)} {kk : Nat} {L : Lv} {X : Cx} {own : List (Str × Nat)} {vs1 : List Nat} {t t1 : Tt} {it it1 : Q.It} {c c1 e : _root_.Q.X} {tg tg1 iter iter1 elt : Expr} {ifs ifs1 : List Expr} {scope : Scope} {pos spos py : Pos} {i : Nat} {y : Str}
theorem swT {gs : List Comprehension} (G : Good g C T kk L X) (hk : L.sc.kind = .function) (h : swB L.sc y py scope pos = true) (l : Nat) : swapsWith (.ListComp elt gs scope pos) (some (.Name y py)) l X.env = pure true := by
  unfold swB at h
  simp only [Bool.and_eq_true, Bool.not_eq_true', beq_iff_eq] at h
  exact sw_true (by rw [G.sc]; exact hk) (by rw [G.sc]; exact h.1.1) (by simpa using h.1.2) h.2
theorem swL (h : swB L.sc y py scope pos = true) : L.sc.names.lookup y = some .local := by
  unfold swB at h
  simp only [Bool.and_eq_true, beq_iff_eq] at h
  exact h.1.1
end
end Q

/-! QSnd9: a body that stands the test. -/
namespace Q
open PySem PySem.Spec PyProof.Rows L2

def swOk (L : Lv) (tg e : Expr) : Bool := match tg with
  | .Name y py => (match e with
    | .ListComp _ _ scope pos => !swB L.sc y py scope pos
    | e => !compB e)
  | _ => true
def lcX : Q.X → Bool
  | .comp _ _ _ _ _ => true
  | .comp2 _ _ _ _ _ _ _ _ _ => true
  | _ => false
/-- an assignment to one target -/
def okA (g : Sig) (t : Tt) (x : Q.X) (L : Lv) (tg e : Expr) : Bool := match t with
  | .sub o i => (match tg with
    | .Subscript a b _ => plainIxB b && okE g o L a && okE g i L b && okE g x L e && swN L.sc tg e
    | _ => false)
  | .subK o i => (match tg with
    | .Subscript a b _ => plainIxB b && okE g o L a && okE g i L b && okE g x L e && swN L.sc tg e
    | _ => false)
  | .tup ts => okB L (.tup ts) tg && okE g x L e && swN L.sc tg e
  | .name i => okB L (.name i) tg && okE g x L e && (match tg, e with
    | .Name y py, .ListComp _ _ scope pos => !swB L.sc y py scope pos || lcX x
    | _, e => !compB e)
mutual
def okS (g : Sig) : S → Lv → Stmt → Bool
  | .pass, _, s => match s with
    | .Pass _ => true
    | .Expr (.Constant (.str _) _ _) _ => true
    | _ => false
  | .set t x, L, s => match s with
    | .Assign [tg] e _ => okA g t x L tg e
    | _ => false
  | .par is xs, L, s => match s with
    | .Assign [.Tuple [.Name x px, .Name y py] _ _] (.Tuple [a, b] _ _) _ => (match is with
      | [i, j] => decide (i ≠ j) && decide (L.N[i]? = some x) && decide (L.N[j]? = some y) && isLoc L.sc x && isLoc L.sc y && decide (x ≠ y) && decide (py.line = px.line) && plain2 a b && okL g xs L [a, b]
      | _ => false)
    | .Assign [.Tuple [.Name x px, .Name y py, .Name z pz] _ _] (.Tuple [a, b, c] _ _) _ => (match is with
      | [i, j, l] => decide (i ≠ j) && decide (i ≠ l) && decide (j ≠ l) && decide (L.N[i]? = some x) && decide (L.N[j]? = some y) && decide (L.N[l]? = some z) && isLoc L.sc x && isLoc L.sc y && isLoc L.sc z &&
        decide (x ≠ y) && decide (x ≠ z) && decide (y ≠ z) && decide (py.line = px.line) && decide (pz.line = px.line) && plain3 a b c && okL g xs L [a, b, c]
      | _ => false)
    | _ => false
  | .aug i op x, L, s => match s with
    | .AugAssign (.Name y _) o e _ => decide (o = op) && (decide (op = .Add) || decide (op = .Sub)) && decide (L.N[i]? = some y) && locB L.sc y && (L.fn y || L.sc.names.lookup y == some .local) && okE g x L e
    | _ => false
  | .expr x, L, s => match s with
    | .Expr e _ => okE g x L e && !compB e
    | _ => false
  | .ite c a b, L, s => match s with
    | .If e p q _ => !iteX c && okE g c L e && okSs g a L p && okSs g b L q
    | _ => false
  | .for_ t it b, L, s => match s with
    | .For tg iter body els _ => els.isEmpty && okB L t tg && notSetB iter && okI g it L tg iter && okSs g b L body
    | _ => false
  | .while_ c b, L, s => match s with
    | .While e body els _ => els.isEmpty && !iteX c && okE g c L e && okSs g b L body
    | _ => false
  | .ret x, L, s => match s with
    | .Return (some e) _ => okE g x L e
    | _ => false
  | .retN, L, s => match s with
    | .Return none _ => true
    | _ => false
  | .never, _, _ => true
def okSs (g : Sig) : List S → Lv → List Stmt → Bool
  | [], _, ss => ss.isEmpty
  | x :: xs, L, ss => match ss with
    | s :: ss => okS g x L s && okSs g xs L ss
    | [] => false
end
section
variable {g : Sig} {C : Ctx} {T : List (Addr × Str)} {k : Nat}
theorem s_setLc {L : Lv} {X : Cx} {x : Q.X} {i : Nat} {y : Str} {py pos spos : Pos} {elt : Expr} {gens : List Comprehension} {scope : Scope} (G : Good g C T k L X) (hk : L.sc.kind = .function) (hx : lcX x = true) (hn : L.N[i]? = some y) (h : okE g x L (.ListComp elt gens scope pos) = true) (hs : swB L.sc y py scope pos = true) :
    PS X (.Assign [.Name y py] (.ListComp elt gens scope pos) spos) (tRunS X.K T (exS C (.set (.name i) x))) := by
  have hyl : X.env.scope.names.lookup y = some .local := by rw [G.sc]; exact swL hs
  have hy : X.N[i]? = some y := by rw [G.hN]; exact hn
  have nd : X.N.Nodup := by rw [G.hN]; exact G.nd
  cases x <;> simp only [lcX, Bool.false_eq_true] at hx
  case comp own t it c x =>
    simp only [okE] at h; split at h; (case h_2 => cases h)
    rename_i e1
    cases e1
    simp only [Bool.and_eq_true, decide_eq_true_eq] at h
    obtain ⟨⟨⟨⟨⟨⟨⟨rfl, h1⟩, h2⟩, h3⟩, h4⟩, h5⟩, h6⟩, h7⟩ := h
    refine (ps_setLc G.calm nd hy hyl (swT G hk hs spos.line) (soundI it L _ _ X G h5) (by rw [G.hN, G.sc]; exact blkOk_by h1) (fun s H C' cl fp => s_bind (G.blk s H _ C' cl fp) t _ h2) (fun s H C' cl fp => ?_) (fun s H C' cl fp => (sound x _ _ _ (G.blk s H _ C' cl fp) h7).1) (notSet_ok h4 X.env)).imp fun D σ H hw => i_name (fun σ H Q z => i_comp (slots_ok h3) z) hw
    split at h6; (case h_3 => cases h6)
    · exact pts_yes h6
    · simp only [Bool.and_eq_true, Bool.not_eq_true'] at h6
      exact pts_one ((sound c _ _ _ (G.blk s H _ C' cl fp) h6.2).2 h6.1)
  case comp2 own t it c own1 t1 it1 c1 x =>
    simp only [okE] at h; split at h; (case h_2 => cases h)
    rename_i e1
    cases e1
    simp only [Bool.and_eq_true, decide_eq_true_eq] at h
    obtain ⟨⟨⟨⟨⟨⟨⟨rfl, h1⟩, h2⟩, h3⟩, h4⟩, h5⟩, h6⟩, ⟨⟨⟨⟨⟨⟨rfl, g1⟩, g2⟩, g3⟩, g4⟩, g5⟩, g6⟩, h7⟩ := h
    refine (ps_setLc2 G.calm nd hy hyl (swT G hk hs spos.line) (soundI it L _ _ X G h5) (by rw [G.hN, G.sc]; exact blkOk_by h1) (slots_ok g1) (fun s H C' cl fp => s_bind (G.blk s H _ C' cl fp) t _ h2) (fun s H C' cl fp => ?_)
      (fun s H C' cl fp => soundI it1 _ _ _ _ (G.blk s H _ C' cl fp) g5) (fun s H C' cl fp => s_bind (G.blk s H _ C' cl fp) t1 _ g2) (fun s H C' cl fp => ?_) (fun s H C' cl fp => (sound x _ _ _ (G.blk s H _ C' cl fp) h7).1) (notSet_ok h4 X.env) (fun env => notSet_ok g4 env)).imp fun D σ H hw => i_name (fun σ H Q z => i_comp2 (slots_ok h3) (slots_ok g3) z) hw
    · split at h6; (case h_3 => cases h6)
      · exact pts_yes h6
      · simp only [Bool.and_eq_true, Bool.not_eq_true'] at h6
        exact pts_one ((sound c _ _ _ (G.blk s H _ C' cl fp) h6.2).2 h6.1)
    · split at g6; (case h_3 => cases g6)
      · exact pts_yes g6
      · simp only [Bool.and_eq_true, Bool.not_eq_true'] at g6
        exact pts_one ((sound c1 _ _ _ (G.blk s H _ C' cl fp) g6.2).2 g6.1)
theorem okB_name {L : Lv} {i : Nat} {tg : Expr} (h : okB L (.name i) tg = true) : ∃ y p, tg = .Name y p ∧ L.N[i]? = some y := by
  cases tg <;> first | (simp [okB] at h; done) | skip
  rename_i y p
  simp only [okB, Bool.and_eq_true, decide_eq_true_eq] at h
  exact ⟨y, p, rfl, h.1⟩
theorem okB_tup {L : Lv} {ts : List Tt} {tg : Expr} (h : okB L (.tup ts) tg = true) : ∃ es j p, tg = .Tuple es j p := by
  cases tg <;> first | (simp [okB] at h; done) | skip
  exact ⟨_, _, _, rfl⟩
theorem sw_name {x : Str} {p : Pos} {e : Expr} {env : PySem.Env} : swappedStores [.Name x p] e env = pure none := by
  cases e <;> rfl
theorem soundA (t : Tt) (x : Q.X) (L : Lv) (tg e : Expr) (pos : Pos) (X : Cx) (G : Good g C T k L X) (hk : L.sc.kind = .function) (h : okA g t x L tg e = true) : PS X (.Assign [tg] e pos) (tRunS X.K T (exS C (.set t x))) := by
  have hk' : X.env.scope.kind = .function := by rw [G.sc]; exact hk
  cases t with
  | sub o i =>
    simp only [okA] at h
    split at h; (case h_2 => cases h)
    simp only [Bool.and_eq_true] at h
    obtain ⟨⟨⟨⟨h1, h2⟩, h3⟩, h4⟩, h5⟩ := h
    exact s_putL h1 (sound o L _ X G h2).1 (sound i L _ X G h3).1 (sound x L _ X G h4).1 (sw_none (by rw [G.sc]; exact h5))
  | subK o i =>
    simp only [okA] at h
    split at h; (case h_2 => cases h)
    simp only [Bool.and_eq_true] at h
    obtain ⟨⟨⟨⟨h1, h2⟩, h3⟩, h4⟩, h5⟩ := h
    exact s_putK G h1 (sound o L _ X G h2).1 (sound i L _ X G h3).1 (sound x L _ X G h4).1 (sw_none (by rw [G.sc]; exact h5))
  | tup ts =>
    simp only [okA, Bool.and_eq_true] at h
    obtain ⟨⟨h1, h2⟩, h3⟩ := h
    have h1' := h1
    obtain ⟨es, j, p, rfl⟩ := okB_tup h1
    exact s_set G h1' (sound x L _ X G h2).1 (sw_tup (es := es) (k := j) (p := p) pos.line X.env) (sw_none (by rw [G.sc]; exact h3))
  | name i =>
    simp only [okA, Bool.and_eq_true] at h
    obtain ⟨⟨h1, h2⟩, h3⟩ := h
    have h1' := h1
    obtain ⟨y, py, rfl, hn⟩ := okB_name h1
    by_cases hc : compB e = true
    · cases e <;> simp only [compB, Bool.false_eq_true] at hc
      case ListComp elt gens scope p =>
        simp only [Bool.or_eq_true, Bool.not_eq_true'] at h3
        by_cases hs : swB L.sc y py scope p = true
        · rcases h3 with h3 | h3
          · rw [hs] at h3; cases h3
          · exact s_setLc G hk h3 hn h2 hs
        · exact s_set G h1' (sound x L _ X G h2).1 (sw_val (l := pos.line) hk' (by rw [G.sc]; simpa using hs)) sw_name
      case SetComp => simp [compB] at h3
      case DictComp => simp [compB] at h3
    · exact s_set G h1' (sound x L _ X G h2).1 (sw_no (e := e) (by simpa using hc) (some (.Name y py)) pos.line X.env) sw_name
mutual
theorem soundS : ∀ (s : S) (L : Lv) (a : Stmt) (X : Cx), Good g C T k L X → L.sc.kind = .function → okS g s L a = true → PS X a (tRunS X.K T (exS C s))
  | .pass, L, a, X, G, hk, h => by
    simp only [okS] at h; split at h; (case h_3 => cases h)
    · exact s_pass
    · exact s_doc
  | .set t x, L, a, X, G, hk, h => by
    simp only [okS] at h; split at h; (case h_2 => cases h)
    exact soundA t x L _ _ _ X G hk h
  | .par is xs, L, a, X, G, hk, h => by
    have nd : X.N.Nodup := by rw [G.hN]; exact G.nd
    have hk' : X.env.scope.kind = .function := by rw [G.sc]; exact hk
    have lk : ∀ {x : Str}, isLoc L.sc x = true → X.env.scope.names.lookup x = some .local := fun {x} h => by rw [G.sc]; simpa [isLoc] using h
    simp only [okS] at h; split at h; (case h_3 => cases h)
    · split at h; (case h_2 => cases h)
      simp only [Bool.and_eq_true, decide_eq_true_eq] at h
      obtain ⟨⟨⟨⟨⟨⟨⟨⟨h1, h2⟩, h3⟩, h4⟩, h5⟩, h6⟩, h7⟩, h8⟩, h9⟩ := h
      exact (ps_par G.calm nd (by rw [G.hN]; exact h2) (by rw [G.hN]; exact h3) h1 (lk h4) (lk h5) (pa_all (soundL xs L _ X G h9)) (sw_two hk' (lk h4) (lk h5) h7 h6 h8)).imp fun D σ H hw => i_par2 hw
    · split at h; (case h_2 => cases h)
      simp only [Bool.and_eq_true, decide_eq_true_eq] at h
      obtain ⟨⟨⟨⟨⟨⟨⟨⟨⟨⟨⟨⟨⟨⟨⟨h1, h2⟩, h3⟩, h4⟩, h5⟩, h6⟩, h7⟩, h8⟩, h9⟩, g1⟩, g2⟩, g3⟩, g4⟩, g5⟩, g6⟩, g7⟩ := h
      exact (ps_par3 G.calm nd (by rw [G.hN]; exact h4) (by rw [G.hN]; exact h5) (by rw [G.hN]; exact h6) h1 h2 h3 (lk h7) (lk h8) (lk h9) (pa_all (soundL xs L _ X G g7)) (sw_three hk' (lk h7) (lk h8) (lk h9) g4 g5 g1 g2 g3 g6)).imp fun D σ H hw => i_par3 hw
  | .aug i op x, L, a, X, G, hk, h => by
    simp only [okS] at h; split at h; (case h_2 => cases h)
    simp only [Bool.and_eq_true, decide_eq_true_eq] at h
    obtain ⟨⟨⟨⟨⟨rfl, h1⟩, h2⟩, h3⟩, h4⟩, h5⟩ := h
    exact s_aug G h2 h3 h4 (by simpa using h1) (sound x L _ X G h5).1
  | .expr x, L, a, X, G, hk, h => by
    simp only [okS] at h; split at h; (case h_2 => cases h)
    simp only [Bool.and_eq_true, Bool.not_eq_true'] at h
    exact s_expr (sound x L _ X G h.1).1 h.2
  | .ite c p q, L, a, X, G, hk, h => by
    simp only [okS] at h; split at h; (case h_2 => cases h)
    simp only [Bool.and_eq_true, Bool.not_eq_true'] at h
    obtain ⟨⟨⟨h1, h2⟩, h3⟩, h4⟩ := h
    exact s_if ((sound c L _ X G h2).2 h1) (soundB p L _ X G hk h3) (soundB q L _ X G hk h4)
  | .for_ t it b, L, a, X, G, hk, h => by
    simp only [okS] at h; split at h; (case h_2 => cases h)
    simp only [Bool.and_eq_true] at h
    obtain ⟨⟨⟨⟨h0, h1⟩, h2⟩, h3⟩, h4⟩ := h
    rw [List.isEmpty_iff] at h0
    subst h0
    exact s_for G (soundI it L _ _ X G h3) h1 (soundB b L _ X G hk h4) (notSet_ok h2 X.env)
  | .while_ c b, L, a, X, G, hk, h => by
    simp only [okS] at h; split at h; (case h_2 => cases h)
    simp only [Bool.and_eq_true, Bool.not_eq_true'] at h
    obtain ⟨⟨⟨h0, h1⟩, h2⟩, h3⟩ := h
    rw [List.isEmpty_iff] at h0
    subst h0
    exact s_while G ((sound c L _ X G h2).2 h1) (soundB b L _ X G hk h3)
  | .ret x, L, a, X, G, hk, h => by
    simp only [okS] at h; split at h; (case h_2 => cases h)
    exact s_ret (sound x L _ X G h).1
  | .retN, L, a, X, G, hk, h => by
    simp only [okS] at h; split at h; (case h_2 => cases h)
    exact s_retN
  | .never, L, a, X, G, hk, h => s_never
theorem soundB : ∀ (ss : List S) (L : Lv) (as : List Stmt) (X : Cx), Good g C T k L X → L.sc.kind = .function → okSs g ss L as = true → PSs X as (tRunS X.K T (exL C ss))
  | [], L, as, X, G, hk, h => by
    simp only [okSs, List.isEmpty_iff] at h
    subst h
    exact p_nil
  | s :: ss, L, as, X, G, hk, h => by
    simp only [okSs] at h; split at h; (case h_2 => cases h)
    simp only [Bool.and_eq_true] at h
    exact p_cons (soundS s L _ X G hk h.1) (soundB ss L _ X G hk h.2)
end
end
end Q

/-! QTop: the defs of a text, and the law's end. -/
namespace Q
open PySem PySem.Spec PyProof.Rows L2

def fnScB (N P : List Str) (sc : Scope) : Bool := decide (sc.kind = .function) && !sc.isCoroutine && !sc.isGenerator && decide N.Nodup && decide (N.take P.length = P) && (P.all fun x => locB sc x) && (sc.names.all fun y => !decide (y.2 = .free))
theorem fnSc_ok {N P : List Str} {sc : Scope} (h : fnScB N P sc = true) : FnScope N P sc := by
  unfold fnScB at h
  simp only [Bool.and_eq_true, Bool.not_eq_true', decide_eq_true_eq, decide_eq_false_iff_not, List.all_eq_true] at h
  obtain ⟨⟨⟨⟨⟨⟨h1, h2⟩, h3⟩, h4⟩, h5⟩, h6⟩, h7⟩ := h
  exact ⟨h1, h2, h3, h4, h5, fun x hx => locB_ok (h6 x hx), fun y hy => h7 y hy⟩
def topL (N : List Str) (st : Stmt) : Lv := ⟨N, defScope st, fun _ => true⟩
/-- the tree is the def's -/
def okDef (g : Sig) (d : Def) (st : Stmt) (ps : List Str) : Bool := fnScB d.names ps (defScope st) && decide (d.arity = ps.length) && okSs g d.body (topL d.names st) (defBody st)
/-- a def as it stands behind the top -/
structure Has (K : PySem.W.Frag) (mg : Str → Option Value) (g : Sig) (tab : Str → Option Def) (f : Str) (n : Nat) : Prop where
  ex : ∃ (a : Addr) (fd : FuncData) (ps : List Str) (st : Stmt) (d : Def), mg f = some (.ref a) ∧ Fun K f f st a fd ∧ L2.Binds K fd ps [] ∧ ps.length = n ∧ tab f = some d ∧ okDef g d st ps = true
structure Top (K : PySem.W.Frag) (mg : Str → Option Value) (g : Sig) (tab : Str → Option Def) (cst : Str → Option D) : Prop where
  fns : ∀ p ∈ g.fns, Has K mg g tab p.1 p.2
  cst : ∀ x ∈ g.cst, ∃ d v u, cst x = some d ∧ mg x = some u ∧ RelV v u ∧ ∀ ρ Z H, Rep K ρ Z H d v
  blt : ∀ x ∈ blts, mg x = none
section
variable {P : Program} {w : World} {K : PySem.W.Frag} {mg : Str → Option Value} {base : Heap} {g : Sig} {tab : Str → Option Def} {cst : Str → Option D} {T : List (Addr × Str)} {turns : Nat}
theorem start_rel {ρ : List Addr} {Z : Addr → Prop} {H : Hp} {ds : List D} {vs : List V} {N : List Str} {n : Nat} (q : Reps K ρ Z H ds vs) (hn : ds.length = n) : RelE K ρ Z H (ds.map some ++ List.replicate (N.length - n) none) (L2.start N vs) := by
  unfold L2.start
  have hl := q.len
  refine ⟨by simp [← hl, hn], fun i d h => ?_⟩
  by_cases hi : i < ds.length
  · rw [List.getElem?_append_left (by simpa using hi), List.getElem?_map] at h
    obtain ⟨d', h1, h2⟩ := Option.map_eq_some_iff.mp h
    cases h2
    obtain ⟨v, h3, h4⟩ := q.get h1
    exact ⟨v, by rw [List.getElem?_append_left (by simp [← hl]; exact hi), List.getElem?_map, h3]; rfl, h4⟩
  · rw [List.getElem?_append_right (by simp; omega), List.getElem?_replicate] at h
    split at h <;> cases h
theorem def_ok {f : Str} {st : Stmt} {a : Addr} {fd : FuncData} {ps : List Str} {d : Def} {k : Nat} (t : Top K mg g tab cst) (F : Fun K f f st a fd) (h : okDef g d st ps = true) {C : Ctx} (hC : C.cst = cst)
    (ih : ∀ p ∈ g.fns, ∃ (a : Addr) (fd : FuncData) (ps : List Str), mg p.1 = some (.ref a) ∧ FnOk P w K mg base CX0 k a fd ps (spC K T (C.call p.1)) ∧ PySem.W.keepIn K (.ref a) = true ∧ L2.Binds K fd ps [] ∧ ps.length = p.2) :
    FnOk P w K mg base CX0 (k + 1) a fd ps (spC K T (runDef C d)) := by
  unfold okDef at h
  simp only [Bool.and_eq_true, decide_eq_true_eq] at h
  obtain ⟨⟨h1, h2⟩, h3⟩ := h
  refine F.ok (fnSc_ok h1) (fun vs H Q E hs => ?_) (fun cdv A outer s H vs Q E hr hs => ?_)
  · obtain ⟨ρ, Z, st0, ds, v, st', rs, q, hd, k⟩ := hs
    unfold runDef at hd
    split at hd
    · rename_i hl
      rw [← q.len, hl, h2]
    · cases hd
  · obtain ⟨ρ, Z, st0, ds, v, st', rs, q, hd, kk⟩ := hs
    unfold runDef at hd
    split at hd
    · rename_i hl
      obtain ⟨⟨fl, env1, st1⟩, h4, h5⟩ := Option.map_eq_some_iff.mp hd
      have G : Good g C T k (topL d.names st) (cxOf CX0 P w K mg base d.names f (defScope st) a cdv A outer s H E).nox :=
        ⟨fun x _ => rfl, rfl, (fnSc_ok h1).nd, rfl, rfl, hr, rfl, fun p hp => ih p hp, fun x hx => by rw [← hC] at t; exact t.cst x hx, t.blt⟩
      refine ⟨_, soundB d.body _ _ _ G (fnSc_ok h1).kind h3, ?_⟩
      refine ⟨ρ, Z, st0, _, _, rs, start_rel q hl, h4, ?_⟩
      cases fl with
      | next =>
        simp only [Prod.mk.injEq] at h5
        obtain ⟨rfl, rfl⟩ := h5
        exact fun ρ' Z' H' σ' f' r' e' => kk _ _ _ _ f' r' (by simp [Rep])
      | ret d =>
        simp only [Prod.mk.injEq] at h5
        obtain ⟨rfl, rfl⟩ := h5
        exact fun ρ' Z' H' v' f' r' q' => kk _ _ _ _ f' r' q'
    · cases hd
theorem fns_ok (t : Top K mg g tab cst) : ∀ (k : Nat), ∀ p ∈ g.fns, ∃ (a : Addr) (fd : FuncData) (ps : List Str), mg p.1 = some (.ref a) ∧ FnOk P w K mg base CX0 k a fd ps (spC K T (callN cst turns tab k p.1)) ∧ PySem.W.keepIn K (.ref a) = true ∧ L2.Binds K fd ps [] ∧ ps.length = p.2
  | 0, p, hp => by
    obtain ⟨a, fd, ps, st, d, h1, h2, h3, h4, h5, h6⟩ := (t.fns p hp).ex
    refine ⟨a, fd, ps, h1, ⟨fun vs H Q E hs => ?_, fun A outer s H args us vs Q E hr he hb hv hs => ?_⟩, h2.kp, h3, h4⟩
    · obtain ⟨ρ, Z, st0, ds, v, st', rs, q, hd, k⟩ := hs
      simp [callN] at hd
    · obtain ⟨ρ, Z, st0, ds, v, st', rs, q, hd, k⟩ := hs
      simp [callN] at hd
  | k + 1, p, hp => by
    obtain ⟨a, fd, ps, st, d, h1, h2, h3, h4, h5, h6⟩ := (t.fns p hp).ex
    refine ⟨a, fd, ps, h1, ?_, h2.kp, h3, h4⟩
    have q := def_ok (P := P) (w := w) (base := base) (T := T) (k := k) t h2 h6 (C := { cst := cst, call := callN cst turns tab k, turns := turns }) rfl (fns_ok t k)
    refine q.imp fun vs H Q E hs => ?_
    obtain ⟨ρ, Z, st0, ds, v, st', rs, q, hd, k⟩ := hs
    simp only [callN, h5] at hd
    exact ⟨ρ, Z, st0, ds, v, st', rs, q, hd, k⟩
/-- the law's def, at its call -/
theorem law_ok (t : Top K mg g tab cst) {f : Str} {st : Stmt} {a : Addr} {fd : FuncData} {ps : List Str} {d : Def} {k : Nat} (F : Fun K f f st a fd) (h : okDef g d st ps = true) (hd : tab f = some d) : FnOk P w K mg base CX0 (k + 1) a fd ps (spC K T (callN cst turns tab (k + 1) f)) := by
  refine (def_ok (P := P) (w := w) (base := base) (T := T) t F h (C := { cst := cst, call := callN cst turns tab k, turns := turns }) rfl (fns_ok t k)).imp fun vs H Q E hs => ?_
  obtain ⟨ρ, Z, st0, ds, v, st', rs, q, hdd, k⟩ := hs
  simp only [callN, hd] at hdd
  exact ⟨ρ, Z, st0, ds, v, st', rs, q, hdd, k⟩
theorem has_mk {h : Heap} {f : Str} {n : Nat} {ps : List Str} {st : Stmt} {d : Def} {a : Addr} {oc : Value} {od an : Option Addr} {sl : Array (Option Value)} {kV doc pm cd ct : Value} (X : K.In h) (G : h.Ns mainGlobals mg) (h1 : PySem.W.nsIn K mainGlobals f = some (some (.ref a)))
    (h2 : K.lookup a = some ⟨oc, od, .func (PySem.W.fnOf f f (defArgs st) (defBody st) (defScope st) .none kV doc pm an cd ct), sl⟩) (h3 : PySem.W.codeIn K cd f = true) (h4 : PySem.W.keepIn K (.ref a) = true)
    (hb : ∀ (kV doc pm : Value) (an : Option Addr) (cdv ct : Value) (us : List Value), us.length = ps.length → bindArgs (PySem.W.fnOf f f (defArgs st) (defBody st) (defScope st) .none kV doc pm an cdv ct) ⟨us, []⟩ = pure (ps.zip us)) (hn : ps.length = n) (ht : tab f = some d) (ho : okDef g d st ps = true) : Has K mg g tab f n := by
  have F := fun_mk (st := st) h2 h3 h4
  exact ⟨a, _, ps, st, d, PySem.W.mg_of X G h1, F, F.binds hb, hn, ht, ho⟩
/-- the script at the law's head -/
theorem script_ok {c : List D → Store → R} {H : Hp} {a : Addr} {ns : List Int} {st' : Store} (hO : Only H) (hS : SqL K H a (ns.map V.int)) (h : c [.frz ns] [] = some (.bl true, st')) {E : XK} : spC K [] c [.ref a] H (fun v _ => v = .bl true) E := by
  refine ⟨[], fun _ => False, [], [.frz ns], .bl true, st', ⟨rfl, .nil, fun a h => absurd h (by simp), fun a h => h.elim, fun n a so h => by simp at h, fun p hp => absurd hp (by simp)⟩, .cons ?_ .nil, h, fun ρ' Z' H' v f r q => by simpa [Rep] using q⟩
  simp only [Rep]
  refine ⟨a, rfl, ?_⟩
  rcases hS with (hS | ⟨o, hS⟩) | hS
  · rcases hO a with h1 | ⟨o, xs, h1⟩
    · rw [h1] at hS; cases hS
    · rw [h1] at hS; cases hS
  · exact .inl ⟨o, hS⟩
  · exact .inr hS
end
end Q

/-! QSim: the evaluator step by step: equations whose continuations are no lambdas, so that simp goes one step after another. -/
namespace Q
open PySem PySem.Spec L2

def th {α β : Type} (f : α → Store → Option β) (o : Option (α × Store)) : Option β := o.bind fun r => f r.1 r.2
theorem th_some {α β : Type} (f : α → Store → Option β) (x : α) (st : Store) : th f (some (x, st)) = f x st := rfl
theorem map_th {α β : Type} (g : α × Store → β) (o : Option (α × Store)) : o.map g = th (fun x st => some (g (x, st))) o := by cases o <;> rfl
def fTwo (C : Ctx) (k : D → D → Store → R) (b : X) (env : Env) (x : D) (st : Store) : R := th (k x) (ev C b env st)
def kCmp (op : CmpOp) (x y : D) (st : Store) : R := (cmpD st op x y).map fun k => (.bl k, st)
def kCat (m : Bool) (x y : D) (st : Store) : R := (lstOf st x).bind fun xs => (lstOf st y).bind fun ys => mkL m (xs ++ ys) st
def kNeg (x : D) (st : Store) : R := match x with
  | .int i => some (.int (-i), st)
  | _ => none
def kNot (x : D) (st : Store) : R := match x with
  | .bl b => some (.bl (!b), st)
  | _ => none
def kIsN (x : D) (st : Store) : R := some (.bl (isNon x), st)
def kNotN (x : D) (st : Store) : R := some (.bl (!isNon x), st)
def kIsB (b : Bool) (x : D) (st : Store) : R := match x with
  | .bl c => some (.bl (decide (c = b)), st)
  | _ => none
def kMem (x y : D) (st : Store) : R := (memD st x y).map fun k => (.bl k, st)
def kNotIn (x y : D) (st : Store) : R := (memD st x y).map fun k => (.bl (!k), st)
def kMemK (x y : D) (st : Store) : R := (dctOf st y).bind fun kvs => (keyOf x).map fun k => (.bl (dget kvs k).isSome, st)
def kNotInK (x y : D) (st : Store) : R := (dctOf st y).bind fun kvs => (keyOf x).map fun k => (.bl (!(dget kvs k).isSome), st)
def kSub (x y : D) (st : Store) : R := (subD st x y).map fun d => (d, st)
def kSubK (x y : D) (st : Store) : R := (dctOf st x).bind fun kvs => (keyOf y).bind fun k => (dget kvs k).map fun d => (d, st)
def chB (o : Option Bool) (x y : R) : R := o.bind fun k => if k = true then x else y
def gChain (C : Ctx) (op op' : CmpOp) (c : X) (env : Env) (x y : D) (st : Store) : R := chB (cmpD st op x y) (th (kCmp op' y) (ev C c env st)) (some (.bl false, st))
def fChain (C : Ctx) (op op' : CmpOp) (b c : X) (env : Env) (x : D) (st : Store) : R := th (gChain C op op' c env x) (ev C b env st)
def fAnd (C : Ctx) (xs : List X) (env : Env) (x : D) (st : Store) : R := match x with
  | .bl t => if t = true then evAnd C xs env st else some (.bl false, st)
  | _ => none
def fOr (C : Ctx) (xs : List X) (env : Env) (x : D) (st : Store) : R := match x with
  | .bl t => if t = true then some (.bl true, st) else evOr C xs env st
  | _ => none
def fIte (C : Ctx) (a b : X) (env : Env) (x : D) (st : Store) : R := match x with
  | .bl t => if t = true then ev C a env st else ev C b env st
  | _ => none
def fSl2 (x : D) (lo hi : Option Int) (st : Store) : R := sliceD x lo hi st
def fSl1 (C : Ctx) (x : D) (hi : X) (env : Env) (lo : Option Int) (st : Store) : R := th (sliceD x lo) (asO (noneX hi) (ev C hi env st))
def fSl (C : Ctx) (lo hi : X) (env : Env) (x : D) (st : Store) : R := th (fSl1 C x hi env) (asO (noneX lo) (ev C lo env st))
def kRev (x : D) (st : Store) : R := (lstOf st x).map fun ds => (.lst ds.reverse, st)
def kRange (m : Bool) (x : D) (st : Store) : R := match x with
  | .int j => if 0 ≤ j ∧ j ≤ 1000000 then mkL m (rangeD 0 j) st else none
  | _ => none
def kIsa (tys : List String) (x : D) (st : Store) : R := (isaD st tys x).map fun b => (.bl b, st)
def fMeth (C : Ctx) (f : Me) (es : List X) (env : Env) (o : D) (st : Store) : R := if meOk f o st = true then th (methD f o) (evL C es env st) else none
def fL2 (x : D) (xs : List D) (st : Store) : Option (List D × Store) := some (x :: xs, st)
def fL (C : Ctx) (es : List X) (env : Env) (x : D) (st : Store) : Option (List D × Store) := th (fL2 x) (evL C es env st)
def fStar2 (xs ys : List D) (st : Store) : Option (List D × Store) := some (xs ++ ys, st)
def fStar (C : Ctx) (es : List X) (env : Env) (x : D) (st : Store) : Option (List D × Store) := (seqOf st x).bind fun xs => th (fStar2 xs) (evL C es env st)
/-- a comprehension's end -/
def endC (o : Option (List D × Store)) : R := o.bind fun q => if q.1.length ≤ sizeLine then some (.lst q.1, q.2) else none
def one1 (C : Ctx) (own : List (Str × Nat)) (t : Tt) (c e : X) (env : Env) : D → Store → Option (List D × Store) :=
  compOne (wipeE env (own.map (·.2))) (bindT t) (fun env st => asB (ev C c env st)) fun env st => (ev C e env st).map fun q => ([q.1], q.2)
def kComp (C : Ctx) (own : List (Str × Nat)) (t : Tt) (c e : X) (env : Env) (gd : Option (Nat × List D)) (r : List D × Store) : R := endC (compLoop gd (one1 C own t c e env) r.1 r.2)
def thI {β : Type} (f : Option (Nat × List D) → List D × Store → Option β) (o : RI) : Option β := o.bind fun r => f r.1 r.2
theorem thI_some {β : Type} (f : Option (Nat × List D) → List D × Store → Option β) (g : Option (Nat × List D)) (r : List D × Store) : thI f (some (g, r)) = f g r := rfl
def inner2 (C : Ctx) (own1 : List Nat) (t1 : Tt) (it1 : It) (c1 e : X) (env1 : Env) (st1 : Store) : Option (List D × Store) := (evIt C it1 env1 st1).bind fun r1 =>
        compLoop r1.1 (compOne (wipeE env1 own1) (bindT t1) (fun env st => asB (ev C c1 env st)) fun env st => (ev C e env st).map fun q => ([q.1], q.2)) r1.2.1 r1.2.2
def one2 (C : Ctx) (own : List (Str × Nat)) (t : Tt) (c : X) (own1 : List Nat) (t1 : Tt) (it1 : It) (c1 e : X) (env : Env) : D → Store → Option (List D × Store) :=
  compOne (wipeE env (own.map (·.2))) (bindT t) (fun env st => asB (ev C c env st)) (inner2 C own1 t1 it1 c1 e)
def kComp2 (C : Ctx) (own : List (Str × Nat)) (t : Tt) (c : X) (own1 : List Nat) (t1 : Tt) (it1 : It) (c1 e : X) (env : Env) (gd : Option (Nat × List D)) (r : List D × Store) : R := endC (compLoop gd (one2 C own t c own1 t1 it1 c1 e env) r.1 r.2)
def kR1 (x : D) (st : Store) : RI := match x with
  | .int j => if lim62 j then some (none, rangeD 0 j, st) else none
  | _ => none
def kR2 (x y : D) (st : Store) : RI := match x, y with
  | .int i, .int j => if lim62 i && lim62 j then some (none, rangeD i j, st) else none
  | _, _ => none
def fR2 (C : Ctx) (b : X) (env : Env) (x : D) (st : Store) : RI := th (kR2 x) (ev C b env st)
def kChars (x : D) (st : Store) : RI := match x with
  | .str x => some (none, signsD x, st)
  | _ => none
/-! statements -/
def kSet (C : Ctx) (t : Tt) (env : Env) (x : D) (st : Store) : RS := (stT C t x env st).map fun q => (.next, q.1, q.2)
def kPut2 (env : Env) (x o i : D) (st : Store) : RS := (putL o i x st).map fun st' => (.next, env, st')
def kPut1 (C : Ctx) (i : X) (env : Env) (x o : D) (st : Store) : RS := th (kPut2 env x o) (ev C i env st)
def kPut (C : Ctx) (o i : X) (env : Env) (x : D) (st : Store) : RS := th (kPut1 C i env x) (ev C o env st)
def kPutK2 (env : Env) (x o i : D) (st : Store) : RS := (putK o i x st).map fun st' => (.next, env, st')
def kPutK1 (C : Ctx) (i : X) (env : Env) (x o : D) (st : Store) : RS := th (kPutK2 env x o) (ev C i env st)
def kPutK (C : Ctx) (o i : X) (env : Env) (x : D) (st : Store) : RS := th (kPutK1 C i env x) (ev C o env st)
def kPar (is : List Nat) (env : Env) (ds : List D) (st : Store) : RS := (setAll is ds env).map fun env' => (.next, env', st)
def kAug (i : Nat) (op : Operator) (env : Env) (x : Int) (y : D) (st : Store) : RS := match op, y with
  | .Add, .int y => some (.next, env.set i (some (.int (x + y))), st)
  | .Sub, .int y => some (.next, env.set i (some (.int (x - y))), st)
  | _, _ => none
def kExpr (env : Env) (x : D) (st : Store) : RS := some (.next, env, st)
def kRet (env : Env) (x : D) (st : Store) : RS := some (.ret x, env, st)
def fIteS (C : Ctx) (a b : List S) (env : Env) (x : D) (st : Store) : RS := match x with
  | .bl t => if t = true then exL C a env st else exL C b env st
  | _ => none
def kFor (C : Ctx) (t : Tt) (b : List S) (env : Env) (gd : Option (Nat × List D)) (r : List D × Store) : RS := forLoop gd (bindT t) (exL C b) r.1 env r.2
def thS (C : Ctx) (ss : List S) (o : RS) : RS := o.bind fun r => match r with
      | (.ret d, env', st') => some (.ret d, env', st')
      | (.next, env', st') => exL C ss env' st'
def outD (o : RS) : R := o.map fun r => match r with
      | (.ret v, _, st') => (v, st')
      | (.next, _, st') => (.non, st')
abbrev cx (cst : Str → Option D) (turns : Nat) (tab : Str → Option Def) (k : Nat) : Ctx := { cst := cst, call := callN cst turns tab k, turns := turns }
def getV (o : Option (Option D)) (st : Store) : R := match o with
  | some (some d) => some (d, st)
  | _ => none
section
variable {C : Ctx} {env : Env} {st : Store}
theorem asB_th (f : Bool → Store → Option β) (o : R) : ((asB o).bind fun r => f r.1 r.2) = th (fun x st => match x with
    | .bl b => f b st
    | _ => none) o := by
  rcases o with _ | ⟨x, st⟩
  · rfl
  · cases x <;> rfl
theorem call_eq {cst : Str → Option D} {turns : Nat} {tab : Str → Option Def} {k : Nat} {f : Str} {d : Def} {ds : List D} {st : Store} (ht : tab f = some d) (hl : ds.length = d.arity) :
    callN cst turns tab (k + 1) f ds st = outD (exL (cx cst turns tab k) d.body (ds.map some ++ List.replicate (d.names.length - d.arity) none) st) := by
  simp only [callN, ht, runDef, if_pos hl]
  rfl
theorem evl_cons {x : X} {xs : List X} (h : starX x = false) : evL C (x :: xs) env st = th (fL C xs env) (ev C x env st) := by
  rw [evL_cons h]
  rcases ev C x env st with _ | ⟨d, st1⟩
  · rfl
  · show ((evL C xs env st1).map _) = th (fL2 d) (evL C xs env st1)
    cases evL C xs env st1 <;> rfl
theorem stTs_name {i : Nat} {ts : List Tt} {d : D} {ds : List D} (h : i < env.length) : stTs C (.name i :: ts) (d :: ds) env st = stTs C ts ds (env.set i (some d)) st := by
  simp only [stTs, stT, if_pos h]; rfl
theorem set_name {i : Nat} {e : X} : exS C (.set (.name i) e) env st = th (kSet C (.name i) env) (ev C e env st) := by
  simp only [exS]; rfl
theorem kSet_name {i : Nat} {x : D} (h : i < env.length) : kSet C (.name i) env x st = some (.next, env.set i (some x), st) := by
  simp only [kSet, stT, if_pos h]; rfl
theorem kSet_tup {ts : List Tt} {ds : List D} (h : ds.length = ts.length) : kSet C (.tup ts) env (.tup ds) st = (stTs C ts ds env st).map fun q => (.next, q.1, q.2) := by
  simp only [kSet, stT, if_pos h]
/-- expressions -/
theorem Ev1 : (∀ (i : Int) (env : Env) (st : Store), ev C (.int i) env st = some (.int i, st)) ∧ (∀ (s : Str) (env : Env) (st : Store), ev C (.str s) env st = some (.str s, st)) ∧ (∀ (b : Bool) (env : Env) (st : Store), ev C (.bl b) env st = some (.bl b, st)) ∧
    (∀ (env : Env) (st : Store), ev C .non env st = some (.non, st)) ∧ (∀ (env : Env) (st : Store), ev C .none_ env st = some (.bl true, st)) ∧ (∀ (i : Nat) (env : Env) (st : Store), ev C (.var i) env st = getV env[i]? st) ∧
    (∀ (d : D) (st : Store), getV (some (some d)) st = some (d, st)) ∧
    (∀ (op : Operator) (a b : X) (env : Env) (st : Store), ev C (.bin op a b) env st = th (fTwo C (binD op) b env) (ev C a env st)) ∧
    (∀ (m : Bool) (a b : X) (env : Env) (st : Store), ev C (.cat m a b) env st = th (fTwo C (kCat m) b env) (ev C a env st)) ∧
    (∀ (op : CmpOp) (a b : X) (env : Env) (st : Store), ev C (.cmp op a b) env st = th (fTwo C (kCmp op) b env) (ev C a env st)) ∧
    (∀ (a b : X) (env : Env) (st : Store), ev C (.mem a b) env st = th (fTwo C kMem b env) (ev C a env st)) ∧ (∀ (a b : X) (env : Env) (st : Store), ev C (.notIn a b) env st = th (fTwo C kNotIn b env) (ev C a env st)) ∧
    (∀ (a b : X) (env : Env) (st : Store), ev C (.memK a b) env st = th (fTwo C kMemK b env) (ev C a env st)) ∧ (∀ (a b : X) (env : Env) (st : Store), ev C (.notInK a b) env st = th (fTwo C kNotInK b env) (ev C a env st)) ∧
    (∀ (a b : X) (env : Env) (st : Store), ev C (.sub a b) env st = th (fTwo C kSub b env) (ev C a env st)) ∧ (∀ (a b : X) (env : Env) (st : Store), ev C (.subK a b) env st = th (fTwo C kSubK b env) (ev C a env st)) ∧
    (∀ (k : D → D → Store → R) (b : X) (env : Env) (x : D) (st : Store), fTwo C k b env x st = th (k x) (ev C b env st)) := by
  refine ⟨?_, ?_, ?_, ?_, ?_, ?_, ?_, ?_, ?_, ?_, ?_, ?_, ?_, ?_, ?_, ?_, ?_⟩ <;> intros <;> first | rfl | (simp only [ev]; rfl)
theorem Ev2 : (∀ (a : X) (env : Env) (st : Store), ev C (.neg a) env st = th kNeg (ev C a env st)) ∧ (∀ (a : X) (env : Env) (st : Store), ev C (.isN a) env st = th kIsN (ev C a env st)) ∧ (∀ (a : X) (env : Env) (st : Store), ev C (.notN a) env st = th kNotN (ev C a env st)) ∧
    (∀ (a : X) (env : Env) (st : Store), ev C (.rev a) env st = th kRev (ev C a env st)) ∧ (∀ (m : Bool) (a : X) (env : Env) (st : Store), ev C (.lrange m a) env st = th (kRange m) (ev C a env st)) ∧ (∀ (tys : List String) (a : X) (env : Env) (st : Store), ev C (.isa tys a) env st = th (kIsa tys) (ev C a env st)) ∧
    (∀ (es : List X) (env : Env) (st : Store), ev C (.tup es) env st = th mkT (evL C es env st)) ∧ (∀ (m : Bool) (es : List X) (env : Env) (st : Store), ev C (.lst m es) env st = th (mkL m) (evL C es env st)) ∧
    (∀ (f : Str) (es : List X) (env : Env) (st : Store), ev C (.call f es) env st = th (C.call f) (evL C es env st)) ∧ (∀ (f : Bi) (m : Bool) (es : List X) (env : Env) (st : Store), ev C (.bi f m es) env st = th (biD f m) (evL C es env st)) ∧
    (∀ (f : Me) (o : X) (es : List X) (env : Env) (st : Store), ev C (.meth f o es) env st = th (fMeth C f es env) (ev C o env st)) ∧
    (∀ (a lo hi : X) (env : Env) (st : Store), ev C (.slice a lo hi) env st = th (fSl C lo hi env) (ev C a env st)) ∧
    (∀ (own : List (Str × Nat)) (t : Tt) (it : It) (c e : X) (env : Env) (st : Store), ev C (.comp own t it c e) env st = thI (kComp C own t c e env) (evIt C it env st)) ∧
    (∀ (own : List (Str × Nat)) (t : Tt) (it : It) (c : X) (own1 : List Nat) (t1 : Tt) (it1 : It) (c1 e : X) (env : Env) (st : Store), ev C (.comp2 own t it c own1 t1 it1 c1 e) env st = thI (kComp2 C own t c own1 t1 it1 c1 e env) (evIt C it env st)) ∧
    (∀ (env : Env) (st : Store), evL C [] env st = some ([], st)) ∧ (∀ (x : D) (xs : List X) (env : Env) (st : Store), fL C xs env x st = th (fL2 x) (evL C xs env st)) ∧ (∀ (x : D) (xs : List D) (st : Store), fL2 x xs st = some (x :: xs, st)) ∧
    (∀ (b : Bool) (st : Store), kNot (.bl b) st = some (.bl (!b), st)) ∧ (∀ (i : Int) (st : Store), kNeg (.int i) st = some (.int (-i), st)) := by
  refine ⟨?_, ?_, ?_, ?_, ?_, ?_, ?_, ?_, ?_, ?_, ?_, ?_, ?_, ?_, ?_, ?_, ?_, ?_, ?_⟩ <;> intros <;> first | rfl | (simp only [ev]; rfl) | (simp only [ev, map_th]; rfl) | (simp only [evL])
theorem ev_not {a : X} : ev C (.not a) env st = th kNot (ev C a env st) := by
  simp only [ev]
  rcases ev C a env st with _ | ⟨x, st⟩
  · rfl
  · cases x <;> rfl
theorem ev_isB {a : X} {b : Bool} : ev C (.isB a b) env st = th (kIsB b) (ev C a env st) := by
  simp only [ev]
  rcases ev C a env st with _ | ⟨x, st⟩
  · rfl
  · cases x <;> rfl
theorem ev_ite {c a b : X} : ev C (.ite c a b) env st = th (fIte C a b env) (ev C c env st) := by
  simp only [ev]
  rcases ev C c env st with _ | ⟨x, st⟩
  · rfl
  · cases x <;> rfl
theorem ev_and {xs : List X} : ev C (.and xs) env st = evAnd C xs env st := by simp only [ev]
theorem ev_or {xs : List X} : ev C (.or xs) env st = evOr C xs env st := by simp only [ev]
theorem and_one {x : X} : evAnd C [x] env st = ev C x env st := by simp only [evAnd]
theorem or_one {x : X} : evOr C [x] env st = ev C x env st := by simp only [evOr]
theorem and_cons {x y : X} {xs : List X} : evAnd C (x :: y :: xs) env st = th (fAnd C (y :: xs) env) (ev C x env st) := by
  simp only [evAnd]
  rcases ev C x env st with _ | ⟨x, st⟩
  · rfl
  · cases x <;> rfl
theorem or_cons {x y : X} {xs : List X} : evOr C (x :: y :: xs) env st = th (fOr C (y :: xs) env) (ev C x env st) := by
  simp only [evOr]
  rcases ev C x env st with _ | ⟨x, st⟩
  · rfl
  · cases x <;> rfl
theorem fAnd_bl {xs : List X} {t : Bool} : fAnd C xs env (.bl t) st = if t = true then evAnd C xs env st else some (.bl false, st) := rfl
theorem fOr_bl {xs : List X} {t : Bool} : fOr C xs env (.bl t) st = if t = true then some (.bl true, st) else evOr C xs env st := rfl
theorem fIte_bl {a b : X} {t : Bool} : fIte C a b env (.bl t) st = if t = true then ev C a env st else ev C b env st := rfl
theorem ev_chain {op op' : CmpOp} {a b c : X} : ev C (.chain op op' a b c) env st = th (fChain C op op' b c env) (ev C a env st) := by
  simp only [ev]
  rcases ev C a env st with _ | ⟨x, st⟩
  · rfl
  · show ((ev C b env st).bind _) = th (gChain C op op' c env x) (ev C b env st)
    rcases ev C b env st with _ | ⟨y, st2⟩
    · rfl
    · show ((cmpD st2 op x y).bind _) = chB (cmpD st2 op x y) _ _
      cases cmpD st2 op x y with
      | none => rfl
      | some k =>
        cases k
        · rfl
        · show ((ev C c env st2).bind _) = th _ (ev C c env st2)
          cases ev C c env st2 <;> rfl
theorem Ev3 : (∀ (a : X) (env : Env) (st : Store), evIt C (.seq a) env st = th srcOf (ev C a env st)) ∧ (∀ (a : X) (env : Env) (st : Store), evIt C (.rng1 a) env st = th kR1 (ev C a env st)) ∧
    (∀ (a b : X) (env : Env) (st : Store), evIt C (.rng2 a b) env st = th (fR2 C b env) (ev C a env st)) ∧ (∀ (a : X) (env : Env) (st : Store), evIt C (.chars a) env st = th kChars (ev C a env st)) ∧
    (∀ (b : X) (env : Env) (x : D) (st : Store), fR2 C b env x st = th (kR2 x) (ev C b env st)) ∧ (∀ (j : Int) (st : Store), kR1 (.int j) st = if lim62 j = true then some (none, rangeD 0 j, st) else none) ∧
    (∀ (i j : Int) (st : Store), kR2 (.int i) (.int j) st = if (lim62 i && lim62 j) = true then some (none, rangeD i j, st) else none) ∧ (∀ (z : Str) (st : Store), kChars (.str z) st = some (none, signsD z, st)) ∧
    (∀ (ds : List D) (st : Store), srcOf (.tup ds) st = some (none, ds, st)) ∧ (∀ (ds : List D) (st : Store), srcOf (.lst ds) st = some (none, ds, st)) := by
  refine ⟨?_, ?_, ?_, ?_, ?_, ?_, ?_, ?_, ?_, ?_⟩ <;> intros <;> first | rfl | (simp only [evIt]; rfl)
/-- statements -/
theorem Ex1 : (∀ (env : Env) (st : Store), exL C [] env st = some (.next, env, st)) ∧ (∀ (s : S) (ss : List S) (env : Env) (st : Store), exL C (s :: ss) env st = thS C ss (exS C s env st)) ∧
    (∀ (ss : List S) (env : Env) (st : Store), thS C ss (some (.next, env, st)) = exL C ss env st) ∧ (∀ (ss : List S) (d : D) (env : Env) (st : Store), thS C ss (some (.ret d, env, st)) = some (.ret d, env, st)) ∧
    (∀ (env : Env) (st : Store), exS C .pass env st = some (.next, env, st)) ∧ (∀ (i : Nat) (e : X) (env : Env) (st : Store), exS C (.set (.name i) e) env st = th (kSet C (.name i) env) (ev C e env st)) ∧
    (∀ (ts : List Tt) (e : X) (env : Env) (st : Store), exS C (.set (.tup ts) e) env st = th (kSet C (.tup ts) env) (ev C e env st)) ∧
    (∀ (is : List Nat) (es : List X) (env : Env) (st : Store), exS C (.par is es) env st = th (kPar is env) (evL C es env st)) ∧
    (∀ (t : Tt) (it : It) (b : List S) (env : Env) (st : Store), exS C (.for_ t it b) env st = thI (kFor C t b env) (evIt C it env st)) ∧ (∀ (env : Env) (st : Store), exS C .retN env st = some (.ret .non, env, st)) ∧
    (∀ (C' : Ctx) (env : Env) (st : Store), stTs C' [] [] env st = some (env, st)) ∧ (∀ (d : D) (env : Env) (st : Store), outD (some (.ret d, env, st)) = some (d, st)) ∧ (∀ (env : Env) (st : Store), outD (some (.next, env, st)) = some (.non, st)) := by
  refine ⟨?_, ?_, ?_, ?_, ?_, ?_, ?_, ?_, ?_, ?_, ?_, ?_, ?_⟩ <;> intros <;> first | rfl | (simp only [exS]; rfl) | (simp only [exL]; rfl) | (simp only [stTs])
theorem ex_expr {e : X} : exS C (.expr e) env st = th (kExpr env) (ev C e env st) := by simp only [exS, map_th]; rfl
theorem ex_ret {e : X} : exS C (.ret e) env st = th (kRet env) (ev C e env st) := by simp only [exS, map_th]; rfl
theorem ex_ite {c : X} {a b : List S} : exS C (.ite c a b) env st = th (fIteS C a b env) (ev C c env st) := by
  simp only [exS]
  rcases ev C c env st with _ | ⟨x, st⟩
  · rfl
  · cases x <;> rfl
theorem fIteS_bl {a b : List S} {t : Bool} : fIteS C a b env (.bl t) st = if t = true then exL C a env st else exL C b env st := rfl
theorem ex_put {o i e : X} : exS C (.set (.sub o i) e) env st = th (kPut C o i env) (ev C e env st) := by
  simp only [exS]
  rcases ev C e env st with _ | ⟨x, st⟩
  · rfl
  · show ((stT C (.sub o i) x env st).map _) = th (kPut1 C i env x) (ev C o env st)
    simp only [stT]
    rcases ev C o env st with _ | ⟨y, st⟩
    · rfl
    · show (Option.map _ ((ev C i env st).bind _)) = th (kPut2 env x y) (ev C i env st)
      rcases ev C i env st with _ | ⟨z, st⟩
      · rfl
      · show (Option.map _ (Option.map _ (putL y z x st))) = kPut2 env x y z st
        unfold kPut2
        cases putL y z x st <;> rfl
theorem ex_putK {o i e : X} : exS C (.set (.subK o i) e) env st = th (kPutK C o i env) (ev C e env st) := by
  simp only [exS]
  rcases ev C e env st with _ | ⟨x, st⟩
  · rfl
  · show ((stT C (.subK o i) x env st).map _) = th (kPutK1 C i env x) (ev C o env st)
    simp only [stT]
    rcases ev C o env st with _ | ⟨y, st⟩
    · rfl
    · show (Option.map _ ((ev C i env st).bind _)) = th (kPutK2 env x y) (ev C i env st)
      rcases ev C i env st with _ | ⟨z, st⟩
      · rfl
      · show (Option.map _ (Option.map _ (putK y z x st))) = kPutK2 env x y z st
        unfold kPutK2
        cases putK y z x st <;> rfl
theorem ex_while {c : X} {b : List S} : exS C (.while_ c b) env st = whileLoop (fun env st => asB (ev C c env st)) (exL C b) C.turns env st := by simp only [exS]
def fAug (C : Ctx) (i : Nat) (op : Operator) (e : X) (env : Env) (st : Store) (o : Option (Option D)) : RS := match o with
  | some (some (.int x)) => th (kAug i op env x) (ev C e env st)
  | _ => none
theorem ex_aug {i : Nat} {op : Operator} {e : X} : exS C (.aug i op e) env st = fAug C i op e env st env[i]? := by
  simp only [exS]
  rcases env[i]? with _ | _ | x
  · rfl
  · rfl
  · cases x <;> rfl
/-- all at once -/
theorem Go : (∀ {α β : Type} (f : α → Store → Option β) (x : α) (st : Store), th f (some (x, st)) = f x st) ∧ (∀ {β : Type} (f : Option (Nat × List D) → List D × Store → Option β) (g : Option (Nat × List D)) (r : List D × Store), thI f (some (g, r)) = f g r) ∧
    (∀ (C : Ctx) (env : Env) (st : Store) (a : X), ev C (.not a) env st = th kNot (ev C a env st)) ∧ (∀ (C : Ctx) (env : Env) (st : Store) (a : X) (b : Bool), ev C (.isB a b) env st = th (kIsB b) (ev C a env st)) ∧ (∀ (C : Ctx) (env : Env) (st : Store) (c a b : X), ev C (.ite c a b) env st = th (fIte C a b env) (ev C c env st)) ∧
    (∀ (C : Ctx) (env : Env) (st : Store) (xs : List X), ev C (.and xs) env st = evAnd C xs env st) ∧ (∀ (C : Ctx) (env : Env) (st : Store) (xs : List X), ev C (.or xs) env st = evOr C xs env st) ∧
    (∀ (C : Ctx) (env : Env) (st : Store) (x : X), evAnd C [x] env st = ev C x env st) ∧ (∀ (C : Ctx) (env : Env) (st : Store) (x : X), evOr C [x] env st = ev C x env st) ∧
    (∀ (C : Ctx) (env : Env) (st : Store) (x y : X) (xs : List X), evAnd C (x :: y :: xs) env st = th (fAnd C (y :: xs) env) (ev C x env st)) ∧ (∀ (C : Ctx) (env : Env) (st : Store) (x y : X) (xs : List X), evOr C (x :: y :: xs) env st = th (fOr C (y :: xs) env) (ev C x env st)) ∧
    (∀ (C : Ctx) (env : Env) (st : Store) (xs : List X) (t : Bool), fAnd C xs env (.bl t) st = if t = true then evAnd C xs env st else some (.bl false, st)) ∧ (∀ (C : Ctx) (env : Env) (st : Store) (xs : List X) (t : Bool), fOr C xs env (.bl t) st = if t = true then some (.bl true, st) else evOr C xs env st) ∧
    (∀ (C : Ctx) (env : Env) (st : Store) (a b : X) (t : Bool), fIte C a b env (.bl t) st = if t = true then ev C a env st else ev C b env st) ∧
    (∀ (C : Ctx) (env : Env) (st : Store) (op op' : CmpOp) (a b c : X), ev C (.chain op op' a b c) env st = th (fChain C op op' b c env) (ev C a env st)) ∧
    (∀ (C : Ctx) (env : Env) (st : Store) (e : X), exS C (.expr e) env st = th (kExpr env) (ev C e env st)) ∧ (∀ (C : Ctx) (env : Env) (st : Store) (e : X), exS C (.ret e) env st = th (kRet env) (ev C e env st)) ∧
    (∀ (C : Ctx) (env : Env) (st : Store) (c : X) (a b : List S), exS C (.ite c a b) env st = th (fIteS C a b env) (ev C c env st)) ∧ (∀ (C : Ctx) (env : Env) (st : Store) (a b : List S) (t : Bool), fIteS C a b env (.bl t) st = if t = true then exL C a env st else exL C b env st) ∧
    (∀ (C : Ctx) (env : Env) (st : Store) (o i e : X), exS C (.set (.sub o i) e) env st = th (kPut C o i env) (ev C e env st)) ∧ (∀ (C : Ctx) (env : Env) (st : Store) (o i e : X), exS C (.set (.subK o i) e) env st = th (kPutK C o i env) (ev C e env st)) ∧
    (∀ (C : Ctx) (env : Env) (st : Store) (i : Nat) (op : Operator) (e : X), exS C (.aug i op e) env st = fAug C i op e env st env[i]?) :=
  ⟨fun _ _ _ => rfl, fun _ _ _ => rfl, fun _ _ _ _ => ev_not, fun _ _ _ _ _ => ev_isB, fun _ _ _ _ _ _ => ev_ite, fun _ _ _ _ => ev_and, fun _ _ _ _ => ev_or, fun _ _ _ _ => and_one, fun _ _ _ _ => or_one, fun _ _ _ _ _ _ => and_cons, fun _ _ _ _ _ _ => or_cons,
    fun _ _ _ _ _ => rfl, fun _ _ _ _ _ => rfl, fun _ _ _ _ _ _ => rfl, fun _ _ _ _ _ _ _ _ => ev_chain, fun _ _ _ _ => ex_expr, fun _ _ _ _ => ex_ret, fun _ _ _ _ _ _ => ex_ite, fun _ _ _ _ _ _ => rfl, fun _ _ _ _ _ _ => ex_put, fun _ _ _ _ _ _ => ex_putK, fun _ _ _ _ _ _ => ex_aug⟩
end
theorem Pl : (∀ (d : D) (st : Store), getV (some (some d)) st = some (d, st)) ∧ (∀ (x : D) (xs : List D) (st : Store), fL2 x xs st = some (x :: xs, st)) ∧
    (∀ (b : Bool) (st : Store), kNot (.bl b) st = some (.bl (!b), st)) ∧ (∀ (i : Int) (st : Store), kNeg (.int i) st = some (.int (-i), st)) ∧
    (∀ (j : Int) (st : Store), kR1 (.int j) st = if lim62 j = true then some (none, rangeD 0 j, st) else none) ∧
    (∀ (i j : Int) (st : Store), kR2 (.int i) (.int j) st = if (lim62 i && lim62 j) = true then some (none, rangeD i j, st) else none) ∧ (∀ (z : Str) (st : Store), kChars (.str z) st = some (none, signsD z, st)) ∧
    (∀ (ds : List D) (st : Store), srcOf (.tup ds) st = some (none, ds, st)) ∧ (∀ (ds : List D) (st : Store), srcOf (.lst ds) st = some (none, ds, st)) ∧
    (∀ (d : D) (env : Env) (st : Store), outD (some (.ret d, env, st)) = some (d, st)) ∧ (∀ (env : Env) (st : Store), outD (some (.next, env, st)) = some (.non, st)) ∧
    (∀ (env : Env) (x : D) (st : Store), kRet env x st = some (.ret x, env, st)) ∧ (∀ (env : Env) (x : D) (st : Store), kExpr env x st = some (.next, env, st)) ∧
    (∀ (env : Env) (x o i : D) (st : Store), kPut2 env x o i st = (putL o i x st).map fun st' => (.next, env, st')) ∧ (∀ (env : Env) (x o i : D) (st : Store), kPutK2 env x o i st = (putK o i x st).map fun st' => (.next, env, st')) ∧
    (∀ (is : List Nat) (env : Env) (ds : List D) (st : Store), kPar is env ds st = (setAll is ds env).map fun env' => (.next, env', st)) ∧ (∀ (env : Env), setAll [] [] env = some env) ∧
    (∀ (x : D) (st : Store), kIsN x st = some (.bl (isNon x), st)) ∧ (∀ (x : D) (st : Store), kNotN x st = some (.bl (!isNon x), st)) ∧
    (∀ (x y : D) (st : Store), kMem x y st = (memD st x y).map fun k => (.bl k, st)) ∧ (∀ (x y : D) (st : Store), kNotIn x y st = (memD st x y).map fun k => (.bl (!k), st)) ∧
    (∀ (m : Bool) (x y : D) (st : Store), kCat m x y st = (lstOf st x).bind fun xs => (lstOf st y).bind fun ys => mkL m (xs ++ ys) st) ∧
    (∀ (tys : List String) (x : D) (st : Store), kIsa tys x st = (isaD st tys x).map fun b => (.bl b, st)) ∧ (∀ (x : D) (st : Store), kRev x st = (lstOf st x).map fun ds => (.lst ds.reverse, st)) ∧
    (∀ (m : Bool) (j : Int) (st : Store), kRange m (.int j) st = if 0 ≤ j ∧ j ≤ 1000000 then mkL m (rangeD 0 j) st else none) ∧ (∀ (b c : Bool) (st : Store), kIsB b (.bl c) st = some (.bl (decide (c = b)), st)) := by
  refine ⟨?_, ?_, ?_, ?_, ?_, ?_, ?_, ?_, ?_, ?_, ?_, ?_, ?_, ?_, ?_, ?_, ?_, ?_, ?_, ?_, ?_, ?_, ?_, ?_, ?_, ?_⟩ <;> intros <;> rfl
theorem Ex2 {C : Q.Ctx} : (∀ (o i : X) (env : Env) (x : D) (st : Store), kPut C o i env x st = th (kPut1 C i env x) (ev C o env st)) ∧ (∀ (i : X) (env : Env) (x o : D) (st : Store), kPut1 C i env x o st = th (kPut2 env x o) (ev C i env st)) ∧
    (∀ (o i : X) (env : Env) (x : D) (st : Store), kPutK C o i env x st = th (kPutK1 C i env x) (ev C o env st)) ∧ (∀ (i : X) (env : Env) (x o : D) (st : Store), kPutK1 C i env x o st = th (kPutK2 env x o) (ev C i env st)) ∧
    (∀ (i : Nat) (op : Operator) (e : X) (env : Env) (st : Store) (x : Int), fAug C i op e env st (some (some (.int x))) = th (kAug i op env x) (ev C e env st)) ∧
    (∀ (lo hi : X) (env : Env) (x : D) (st : Store), fSl C lo hi env x st = th (fSl1 C x hi env) (asO (noneX lo) (ev C lo env st))) ∧ (∀ (x : D) (hi : X) (env : Env) (lo : Option Int) (st : Store), fSl1 C x hi env lo st = th (sliceD x lo) (asO (noneX hi) (ev C hi env st))) ∧
    (∀ (b c : X) (op op' : CmpOp) (env : Env) (x : D) (st : Store), fChain C op op' b c env x st = th (gChain C op op' c env x) (ev C b env st)) ∧
    (∀ (c : X) (op op' : CmpOp) (env : Env) (x y : D) (st : Store), gChain C op op' c env x y st = chB (cmpD st op x y) (th (kCmp op' y) (ev C c env st)) (some (.bl false, st))) ∧
    (∀ (f : Me) (es : List X) (env : Env) (o : D) (st : Store), fMeth C f es env o st = if meOk f o st = true then th (methD f o) (evL C es env st) else none) := by
  refine ⟨?_, ?_, ?_, ?_, ?_, ?_, ?_, ?_, ?_, ?_⟩ <;> intros <;> rfl
theorem asO_some {i : Int} {st : Store} : asO false (some (.int i, st)) = some (some i, st) := rfl
theorem asO_no {st : Store} {d : D} : asO true (some (.bl true, st)) = some (none, st) := rfl
theorem kAug_add {i : Nat} {env : Env} {x y : Int} {st : Store} : kAug i .Add env x (.int y) st = some (.next, env.set i (some (.int (x + y))), st) := rfl
theorem kAug_sub {i : Nat} {env : Env} {x y : Int} {st : Store} : kAug i .Sub env x (.int y) st = some (.next, env.set i (some (.int (x - y))), st) := rfl
theorem setAll_cons {i : Nat} {is : List Nat} {d : D} {ds : List D} {env : Env} (h : i < env.length) : setAll (i :: is) (d :: ds) env = setAll is ds (env.set i (some d)) := by simp only [setAll, if_pos h]
/-- o[k] = v of a list of the store -/
def putAt (n : Nat) (k : Int) (x : D) (st : Store) (o : Option SO) : Option Store := match o with
  | some (.lst ds) => (setAt ds k x).map fun es => st.set n (.lst es)
  | _ => none
theorem putL_loc {n : Nat} {k : Int} {x : D} {st : Store} : putL (.loc n) (.int k) x st = putAt n k x st st[n]? := rfl
theorem putAt_lst {n : Nat} {k : Int} {x : D} {st : Store} {ds : List D} : putAt n k x st (some (.lst ds)) = (setAt ds k x).map fun es => st.set n (.lst es) := rfl
theorem setAt_1 {a b x : D} {l : List D} : setAt (a :: b :: l) 1 x = some (a :: x :: l) := by
  unfold setAt
  rw [show ixN (a :: b :: l).length 1 = some 1 by simp [ixN]; omega]
  rfl
theorem setAt_2 {a b c x : D} {l : List D} : setAt (a :: b :: c :: l) 2 x = some (a :: b :: x :: l) := by
  unfold setAt
  rw [show ixN (a :: b :: c :: l).length 2 = some 2 by simp [ixN]; omega]
  rfl
theorem Sx : (∀ i, starX (.int i) = false) ∧ (∀ i, starX (.str i) = false) ∧ (∀ i, starX (.bl i) = false) ∧ starX .non = false ∧ (∀ i, starX (.var i) = false) ∧ (∀ i, starX (.glb i) = false) ∧ (∀ o a b, starX (.bin o a b) = false) ∧ (∀ m a b, starX (.cat m a b) = false) ∧
    (∀ a, starX (.neg a) = false) ∧ (∀ a, starX (.not a) = false) ∧ (∀ o a b, starX (.cmp o a b) = false) ∧ (∀ o p a b c, starX (.chain o p a b c) = false) ∧ (∀ a, starX (.isN a) = false) ∧ (∀ a, starX (.notN a) = false) ∧ (∀ a b, starX (.isB a b) = false) ∧
    (∀ a b, starX (.mem a b) = false) ∧ (∀ a b, starX (.notIn a b) = false) ∧ (∀ a b, starX (.memK a b) = false) ∧ (∀ a b, starX (.notInK a b) = false) ∧ (∀ a, starX (.and a) = false) ∧ (∀ a, starX (.or a) = false) ∧ (∀ a b c, starX (.ite a b c) = false) ∧
    (∀ a, starX (.tup a) = false) ∧ (∀ m a, starX (.lst m a) = false) ∧ (∀ a b, starX (.sub a b) = false) ∧ (∀ a b, starX (.subK a b) = false) ∧ (∀ a b c, starX (.slice a b c) = false) ∧ (∀ a, starX (.rev a) = false) ∧ (∀ f a, starX (.call f a) = false) ∧ (∀ f m a, starX (.bi f m a) = false) ∧
    (∀ m a, starX (.lrange m a) = false) ∧ (∀ t a, starX (.isa t a) = false) ∧ (∀ f o a, starX (.meth f o a) = false) ∧ (∀ a b c d e, starX (.comp a b c d e) = false) ∧ (∀ a b c d e f g h i, starX (.comp2 a b c d e f g h i) = false) := by
  refine ⟨?_, ?_, ?_, ?_, ?_, ?_, ?_, ?_, ?_, ?_, ?_, ?_, ?_, ?_, ?_, ?_, ?_, ?_, ?_, ?_, ?_, ?_, ?_, ?_, ?_, ?_, ?_, ?_, ?_, ?_, ?_, ?_, ?_, ?_, ?_⟩ <;> intros <;> rfl
/-! ### values -/
def subLoc (o : Option SO) (k : Int) : Option D := match o with
  | some (.lst ds) => atI ds k
  | _ => none
theorem bl_eq (a b : Bool) (st : Store) : cmpD st .Eq (.bl a) (.bl b) = some (a == b) := by cases a <;> cases b <;> rfl
theorem Val1 : (∀ (st : Store) (ds : List D) (k : Int), subD st (.tup ds) (.int k) = atI ds k) ∧ (∀ (st : Store) (ds : List D) (k : Int), subD st (.lst ds) (.int k) = atI ds k) ∧ (∀ (st : Store) (n : Nat) (k : Int), subD st (.loc n) (.int k) = subLoc st[n]? k) ∧
    (∀ (ds : List D) (k : Int), subLoc (some (.lst ds)) k = atI ds k) ∧
    (∀ (a : D) (l : List D), atI (a :: l) 0 = some a) ∧ (∀ (a b : D) (l : List D), atI (a :: b :: l) 1 = some b) ∧ (∀ (a b c : D) (l : List D), atI (a :: b :: c :: l) 2 = some c) ∧ (∀ (a b c d : D) (l : List D), atI (a :: b :: c :: d :: l) 3 = some d) ∧
    (∀ (x y : D) (st : Store), kSub x y st = (subD st x y).map fun d => (d, st)) ∧ (∀ (op : CmpOp) (x y : D) (st : Store), kCmp op x y st = (cmpD st op x y).map fun k => (.bl k, st)) ∧
    (∀ (st : Store) (i j : Int), cmpD st .Lt (.int i) (.int j) = some (decide (i < j))) ∧ (∀ (st : Store) (i j : Int), cmpD st .LtE (.int i) (.int j) = some (decide (i ≤ j))) ∧
    (∀ (st : Store) (i j : Int), cmpD st .Gt (.int i) (.int j) = some (decide (j < i))) ∧ (∀ (st : Store) (i j : Int), cmpD st .GtE (.int i) (.int j) = some (decide (j ≤ i))) ∧
    (∀ (st : Store) (i j : Int), cmpD st .Eq (.int i) (.int j) = some (i == j)) ∧ (∀ (st : Store) (i j : Int), cmpD st .NotEq (.int i) (.int j) = some (!(i == j))) ∧
    (∀ (st : Store) (i j : Str), cmpD st .Eq (.str i) (.str j) = some (i == j)) ∧ (∀ (st : Store) (i j : Str), cmpD st .NotEq (.str i) (.str j) = some (!(i == j))) ∧
    (∀ (st : Store) (i j : Bool), cmpD st .Eq (.bl i) (.bl j) = some (i == j)) ∧ (∀ (st : Store) (i j : Bool), cmpD st .NotEq (.bl i) (.bl j) = some (!(i == j))) ∧
    (∀ (i j : Int) (st : Store), binD .Add (.int i) (.int j) st = some (.int (i + j), st)) ∧ (∀ (i j : Int) (st : Store), binD .Sub (.int i) (.int j) st = some (.int (i - j), st)) ∧
    (∀ (m : Bool) (d : D) (st : Store), biD .len m [d] st = (lenD st d).map fun n => (.int n, st)) ∧ (∀ (m : Bool) (i : Int) (st : Store), biD .int m [.int i] st = some (.int i, st)) ∧ (∀ (m : Bool) (i : Int) (st : Store), biD .abs m [.int i] st = some (.int (if i < 0 then -i else i), st)) ∧
    (∀ (st : Store) (ds : List D), lenD st (.tup ds) = some (ds.length : Int)) ∧ (∀ (st : Store) (ds : List D), lenD st (.lst ds) = some (ds.length : Int)) := by
  refine ⟨?_, ?_, ?_, ?_, ?_, ?_, ?_, ?_, ?_, ?_, ?_, ?_, ?_, ?_, ?_, ?_, ?_, ?_, ?_, ?_, ?_, ?_, ?_, ?_, ?_, ?_, ?_⟩ <;> intros <;> first | rfl | exact bl_eq _ _ _ | skip
  · rename_i st n k
    simp only [subD, seqOf, subLoc]
    rcases st[n]? with _ | (_ | _ | _) <;> rfl
  · exact atI_nat (j := 0) rfl
  · exact atI_nat (j := 1) rfl
  · exact atI_nat (j := 2) rfl
  · exact atI_nat (j := 3) rfl
theorem mult_ok {i j : Int} {st : Store} (h1 : i.natAbs < 2 ^ 1000) (h2 : j.natAbs < 2 ^ 1000) : binD .Mult (.int i) (.int j) st = some (.int (i * j), st) := by
  show (binI .Mult i j).map _ = _
  simp only [binI, if_pos (And.intro h1 h2)]; rfl
theorem fdiv_ok {i j : Int} {st : Store} (h1 : j ≠ 0) (h2 : j.natAbs < 2 ^ 1000) : binD .FloorDiv (.int i) (.int j) st = some (.int (i.fdiv j), st) := by
  show (binI .FloorDiv i j).map _ = _
  simp only [binI, if_pos (And.intro h1 h2)]; rfl
theorem fmod_ok {i j : Int} {st : Store} (h1 : j ≠ 0) : binD .Mod (.int i) (.int j) st = some (.int (i.fmod j), st) := by
  show (binI .Mod i j).map _ = _
  simp only [binI, if_pos h1]; rfl
theorem pow15 (st : Store) : binD .Pow (.int 10) (.int 15) st = some (.int 1000000000000000, st) := by
  simp [binD, binI]
theorem pow18 (st : Store) : binD .Pow (.int 10) (.int 18) st = some (.int 1000000000000000000, st) := by
  simp [binD, binI]
theorem noneX_t : noneX .none_ = true := rfl
theorem noneX_i {i : Int} : noneX (.int i) = false := rfl
theorem noneX_v {i : Nat} : noneX (.var i) = false := rfl
theorem noneX_n {a : X} : noneX (.neg a) = false := rfl
/-! ### loops -/
theorem compLoop_all {one : D → Store → Option (List D × Store)} {st : Store} {f : D → List D} : ∀ {ds : List D}, (∀ d ∈ ds, one d st = some (f d, st)) → compLoop none one ds st = some (ds.flatMap f, st)
  | [], _ => rfl
  | d :: ds, h => by
    have ih := compLoop_all (f := f) (one := one) (st := st) (ds := ds) fun x hx => h x (List.mem_cons_of_mem _ hx)
    show (if guardOk none st = true then (one d st).bind fun r => (compLoop none one ds r.2).bind fun q => some (r.1 ++ q.1, q.2) else none) = _
    rw [if_pos (show guardOk none st = true from rfl), h d List.mem_cons_self]
    show ((compLoop none one ds st).bind fun q => some (f d ++ q.1, q.2)) = _
    rw [ih]
    rfl
theorem compLoop_nil {one : D → Store → Option (List D × Store)} {st : Store} {ds : List D} (h : ∀ d ∈ ds, one d st = some ([], st)) : compLoop none one ds st = some ([], st) := by
  rw [compLoop_all (f := fun _ => []) h]
  simp
theorem compLoop_map {one : D → Store → Option (List D × Store)} {st : Store} (g : D → D) {ds : List D} (h : ∀ d ∈ ds, one d st = some ([g d], st)) : compLoop none one ds st = some (ds.map g, st) := by
  rw [compLoop_all (f := fun d => [g d]) h, List.map_eq_flatMap]
theorem rangeD_mem {n : Nat} {d : D} (h : d ∈ rangeD 0 n) : ∃ i : Nat, i < n ∧ d = .int i := by
  unfold rangeD at h
  obtain ⟨i, hi, rfl⟩ := List.mem_map.mp h
  refine ⟨i, ?_, by simp⟩
  have := List.mem_range.mp hi
  omega
theorem forLoop_inv {bd : D → Env → Option Env} {body : Env → Store → RS} {I : Env → Store → Prop} : ∀ {ds : List D} {env : Env} {st : Store}, I env st → (∀ d ∈ ds, ∀ env st, I env st → ∃ env1, bd d env = some env1 ∧ ∃ env2 st2, body env1 st = some (.next, env2, st2) ∧ I env2 st2) →
    ∃ env2 st2, forLoop none bd body ds env st = some (.next, env2, st2) ∧ I env2 st2
  | [], env, st, h, _ => ⟨env, st, rfl, h⟩
  | d :: ds, env, st, h, hs => by
    obtain ⟨env1, h1, env2, st2, h2, h3⟩ := hs d List.mem_cons_self env st h
    obtain ⟨env3, st3, h4, h5⟩ := forLoop_inv h3 fun x hx => hs x (List.mem_cons_of_mem _ hx)
    refine ⟨env3, st3, ?_, h5⟩
    show (if guardOk none st = true then (bd d env).bind fun env1 => (body env1 st).bind fun r => match r with
        | (.ret d, env2, st2) => some (.ret d, env2, st2)
        | (.next, env2, st2) => forLoop none bd body ds env2 st2 else none) = _
    rw [if_pos (show guardOk none st = true from rfl), h1]
    show ((body env1 st).bind _) = _
    rw [h2]
    exact h4
/-- the loop's invariant with its turn -/
theorem forLoop_ix {bd : D → Env → Option Env} {body : Env → Store → RS} {I : Nat → Env → Store → Prop} : ∀ {ds : List D} {env : Env} {st : Store} {j : Nat}, I j env st → (∀ (i : Nat) (d : D), ds[i]? = some d → ∀ env st, I (j + i) env st → ∃ env1, bd d env = some env1 ∧ ∃ env2 st2, body env1 st = some (.next, env2, st2) ∧ I (j + i + 1) env2 st2) →
    ∃ env2 st2, forLoop none bd body ds env st = some (.next, env2, st2) ∧ I (j + ds.length) env2 st2
  | [], env, st, j, h, _ => ⟨env, st, rfl, h⟩
  | d :: ds, env, st, j, h, hs => by
    obtain ⟨env1, h1, env2, st2, h2, h3⟩ := hs 0 d rfl env st h
    obtain ⟨env3, st3, h4, h5⟩ := forLoop_ix (j := j + 1) h3 fun i x hx env st hI => by
      have e : j + (i + 1) = j + 1 + i := by omega
      have := hs (i + 1) x hx env st (by rw [e]; exact hI)
      rw [e] at this
      exact this
    refine ⟨env3, st3, ?_, by have e : j + (d :: ds).length = j + 1 + ds.length := by rw [List.length_cons]; omega
                              rw [e]; exact h5⟩
    show (if guardOk none st = true then (bd d env).bind fun env1 => (body env1 st).bind fun r => match r with
        | (.ret d, env2, st2) => some (.ret d, env2, st2)
        | (.next, env2, st2) => forLoop none bd body ds env2 st2 else none) = _
    rw [if_pos (show guardOk none st = true from rfl), h1]
    show ((body env1 st).bind _) = _
    rw [h2]
    exact h4
theorem for_eq {C : Q.Ctx} {t : Tt} {b : List S} {env : Env} {gd : Option (Nat × List D)} {ds : List D} {st : Store} : kFor C t b env gd (ds, st) = forLoop gd (bindT t) (exL C b) ds env st := rfl
theorem comp_eq {C : Q.Ctx} {own : List (Str × Nat)} {t : Tt} {c e : X} {env : Env} {gd : Option (Nat × List D)} {ds : List D} {st : Store} : kComp C own t c e env gd (ds, st) = endC (compLoop gd (one1 C own t c e env) ds st) := rfl
theorem endC_ok {zs : List D} {st : Store} (h : zs.length ≤ sizeLine) : endC (some (zs, st)) = some (.lst zs, st) := by
  show (if zs.length ≤ sizeLine then some (D.lst zs, st) else none) = _
  rw [if_pos h]
def kBl (C : Q.Ctx) (e : X) (env : Env) (x : D) (st : Store) : Option (List D × Store) := match x with
  | .bl t => if t = true then th (fun d st => some ([d], st)) (ev C e env st) else some ([], st)
  | _ => none
/-- one turn over a plain name -/
theorem one1_name {C : Q.Ctx} {own : List (Str × Nat)} {i : Nat} {c e : X} {env : Env} {d : D} {st : Store} (h : i < (wipeE env (own.map (·.2))).length) :
    one1 C own (.name i) c e env d st = th (kBl C e ((wipeE env (own.map (·.2))).set i (some d))) (ev C c ((wipeE env (own.map (·.2))).set i (some d)) st) := by
  unfold one1 compOne
  simp only [bindT, if_pos h]
  generalize (wipeE env (own.map (·.2))).set i (some d) = env1
  show ((asB (ev C c env1 st)).bind _) = th (kBl C e env1) (ev C c env1 st)
  rcases ev C c env1 st with _ | ⟨x, st1⟩
  · rfl
  · cases x <;> try rfl
    rename_i b
    cases b
    · rfl
    · show (Option.map (fun q => ([q.1], q.2)) (ev C e env1 st1)) = th (fun d st => some ([d], st)) (ev C e env1 st1)
      rw [map_th]
theorem kBl_bl {C : Q.Ctx} {e : X} {env : Env} {t : Bool} {st : Store} : kBl C e env (.bl t) st = if t = true then th (fun d st => some ([d], st)) (ev C e env st) else some ([], st) := rfl
theorem Isa (st : Store) : isaD st ["list", "tuple"] .non = some false ∧ isaD st ["list"] .non = some false ∧ isaD st ["tuple"] .non = some false ∧ isaD st ["bool"] .non = some false ∧
    (∀ i, isaD st ["list", "tuple"] (.int i) = some false) ∧ (∀ i, isaD st ["list"] (.int i) = some false) ∧ (∀ i, isaD st ["tuple"] (.int i) = some false) ∧ (∀ i, isaD st ["bool"] (.int i) = some false) ∧
    (∀ i, isaD st ["list", "tuple"] (.str i) = some false) ∧ (∀ i, isaD st ["list"] (.str i) = some false) ∧ (∀ i, isaD st ["tuple"] (.str i) = some false) ∧ (∀ i, isaD st ["bool"] (.str i) = some false) ∧
    (∀ i, isaD st ["list", "tuple"] (.bl i) = some false) ∧ (∀ i, isaD st ["list"] (.bl i) = some false) ∧ (∀ i, isaD st ["tuple"] (.bl i) = some false) ∧ (∀ i, isaD st ["bool"] (.bl i) = some true) ∧
    (∀ i, isaD st ["list", "tuple"] (.tup i) = some true) ∧ (∀ i, isaD st ["list"] (.tup i) = some false) ∧ (∀ i, isaD st ["tuple"] (.tup i) = some true) ∧ (∀ i, isaD st ["bool"] (.tup i) = some false) ∧
    (∀ i, isaD st ["list", "tuple"] (.lst i) = some true) ∧ (∀ i, isaD st ["list"] (.lst i) = some true) ∧ (∀ i, isaD st ["tuple"] (.lst i) = some false) ∧ (∀ i, isaD st ["bool"] (.lst i) = some false) := by
  refine ⟨?_, ?_, ?_, ?_, ?_, ?_, ?_, ?_, ?_, ?_, ?_, ?_, ?_, ?_, ?_, ?_, ?_, ?_, ?_, ?_, ?_, ?_, ?_, ?_⟩ <;> intros <;> rfl
theorem mkL_nil {st : Store} : mkL false [] st = some (.lst [], st) := rfl
theorem mkL_f {ds : List D} {st : Store} (h : ds.length ≤ sizeLine) : mkL false ds st = some (.lst ds, st) := by
  unfold mkL; rw [if_pos h]; rfl
theorem mkL_t {ds : List D} {st : Store} (h : ds.length ≤ sizeLine) : mkL true ds st = some (.loc st.length, st ++ [.lst ds]) := by
  unfold mkL; rw [if_pos h]; rfl
theorem mkT_ok {ds : List D} {st : Store} (h : ds.length ≤ sizeLine) : mkT ds st = some (.tup ds, st) := by
  unfold mkT; rw [if_pos h]
theorem MkT : (∀ (a b : D) (st : Store), mkT [a, b] st = some (.tup [a, b], st)) ∧ (∀ (a b c : D) (st : Store), mkT [a, b, c] st = some (.tup [a, b, c], st)) ∧ (∀ (a b c d : D) (st : Store), mkT [a, b, c, d] st = some (.tup [a, b, c, d], st)) ∧
    (∀ (a : D) (st : Store), mkT [a] st = some (.tup [a], st)) ∧ (∀ (st : Store), mkT [] st = some (.tup [], st)) ∧ (∀ (st : Store), mkL false [] st = some (.lst [], st)) ∧ (∀ (a : D) (st : Store), mkL false [a] st = some (.lst [a], st)) ∧ (∀ (a b : D) (st : Store), mkL false [a, b] st = some (.lst [a, b], st)) ∧
    (∀ (a b c : D) (st : Store), mkL false [a, b, c] st = some (.lst [a, b, c], st)) ∧ (∀ (a b c d : D) (st : Store), mkL false [a, b, c, d] st = some (.lst [a, b, c, d], st)) := by
  refine ⟨?_, ?_, ?_, ?_, ?_, ?_, ?_, ?_, ?_, ?_⟩ <;> intros <;> first | exact mkT_ok (by simp [sizeLine]) | exact mkL_f (by simp [sizeLine])
theorem lst_eq_nil {st : Store} : cmpD st .Eq (.lst []) (.lst []) = some true := rfl
theorem stTs_nil {C : Q.Ctx} {env : Env} {st : Store} : stTs C [] [] env st = some (env, st) := by simp only [stTs]
/-- a loop that gathers items -/
theorem gather {bd : D → Q.Env → Option Q.Env} {body : Q.Env → Store → RS} {mk : Option D → List D → Q.Env} {f : D → List D} {st : Store} {B : Nat} : ∀ {ds : List D}, (∀ d ∈ ds, ∀ acc x, (acc ++ f d).length ≤ B → ∃ env1, bd d (mk x acc) = some env1 ∧ body env1 st = some (.next, mk (some d) (acc ++ f d), st)) →
    ∀ acc x, (acc ++ ds.flatMap f).length ≤ B → ∃ y, forLoop none bd body ds (mk x acc) st = some (.next, mk y (acc ++ ds.flatMap f), st)
  | [], _, acc, x, _ => ⟨x, by
    show some (Fl.next, mk x acc, st) = _
    rw [List.flatMap_nil, List.append_nil]⟩
  | d :: ds, h, acc, x, hB => by
    obtain ⟨env1, h1, h2⟩ := h d List.mem_cons_self acc x (by simp only [List.flatMap_cons, List.length_append] at hB ⊢; omega)
    obtain ⟨y, h3⟩ := gather (fun e he => h e (List.mem_cons_of_mem _ he)) (acc ++ f d) (some d) (by rw [List.append_assoc, ← List.flatMap_cons]; exact hB)
    refine ⟨y, ?_⟩
    show (if guardOk none st = true then (bd d (mk x acc)).bind fun env1 => (body env1 st).bind fun r => match r with
        | (.ret d, env2, st2) => some (.ret d, env2, st2)
        | (.next, env2, st2) => forLoop none bd body ds env2 st2 else none) = _
    rw [if_pos (show guardOk none st = true from rfl), h1]
    show ((body env1 st).bind _) = _
    rw [h2, List.flatMap_cons, ← List.append_assoc]
    exact h3
theorem cat_ok {xs ys : List D} {st : Store} (h : (xs ++ ys).length ≤ 1000000) : ((lstOf st (.lst xs)).bind fun xs => (lstOf st (.lst ys)).bind fun ys => mkL false (xs ++ ys) st) = some (.lst (xs ++ ys), st) := by
  show mkL false (xs ++ ys) st = _
  exact mkL_f (Nat.le_trans h (by decide))
def fCat2 (ys zs : List D) (st : Store) : Option (List D × Store) := some (ys ++ zs, st)
def fCat (one : D → Store → Option (List D × Store)) (ds ys : List D) (st : Store) : Option (List D × Store) := th (fCat2 ys) (compLoop none one ds st)
def oneI (C : Q.Ctx) (vs : List Nat) (t : Tt) (c e : X) (env : Q.Env) : D → Store → Option (List D × Store) :=
  compOne (wipeE env vs) (bindT t) (fun env st => asB (ev C c env st)) fun env st => (ev C e env st).map fun q => ([q.1], q.2)
def kIn (C : Q.Ctx) (own1 : List Nat) (t1 : Tt) (c1 e : X) (env : Q.Env) (gd : Option (Nat × List D)) (r : List D × Store) : Option (List D × Store) := compLoop gd (oneI C own1 t1 c1 e env) r.1 r.2
def kBl2 (C : Q.Ctx) (own1 : List Nat) (t1 : Tt) (it1 : It) (c1 e : X) (env : Q.Env) (x : D) (st : Store) : Option (List D × Store) := match x with
  | .bl t => if t = true then thI (kIn C own1 t1 c1 e env) (evIt C it1 env st) else some ([], st)
  | _ => none
theorem one2_name {C : Q.Ctx} {own : List (Str × Nat)} {i : Nat} {c e : X} {own1 : List Nat} {t1 : Tt} {it1 : It} {c1 : X} {env : Q.Env} {d : D} {st : Store} (h : i < (wipeE env (own.map (·.2))).length) :
    one2 C own (.name i) c own1 t1 it1 c1 e env d st = th (kBl2 C own1 t1 it1 c1 e ((wipeE env (own.map (·.2))).set i (some d))) (ev C c ((wipeE env (own.map (·.2))).set i (some d)) st) := by
  unfold one2 compOne
  simp only [bindT, if_pos h]
  generalize (wipeE env (own.map (·.2))).set i (some d) = env1
  show ((asB (ev C c env1 st)).bind _) = th (kBl2 C own1 t1 it1 c1 e env1) (ev C c env1 st)
  rcases ev C c env1 st with _ | ⟨x, st1⟩
  · rfl
  · cases x <;> rfl
theorem oneI_name {C : Q.Ctx} {vs : List Nat} {i : Nat} {c e : X} {env : Q.Env} {d : D} {st : Store} (h : i < (wipeE env vs).length) :
    oneI C vs (.name i) c e env d st = th (kBl C e ((wipeE env vs).set i (some d))) (ev C c ((wipeE env vs).set i (some d)) st) := by
  unfold oneI compOne
  simp only [bindT, if_pos h]
  generalize (wipeE env vs).set i (some d) = env1
  show ((asB (ev C c env1 st)).bind _) = th (kBl C e env1) (ev C c env1 st)
  rcases ev C c env1 st with _ | ⟨x, st1⟩
  · rfl
  · cases x <;> try rfl
    rename_i b
    cases b
    · rfl
    · show (Option.map (fun q => ([q.1], q.2)) (ev C e env1 st1)) = th (fun d st => some ([d], st)) (ev C e env1 st1)
      rw [map_th]
theorem Lp : (∀ (one : D → Store → Option (List D × Store)) (d : D) (ds : List D) (st : Store), compLoop none one (d :: ds) st = th (fCat one ds) (one d st)) ∧ (∀ (one : D → Store → Option (List D × Store)) (st : Store), compLoop none one [] st = some ([], st)) ∧
    (∀ (one : D → Store → Option (List D × Store)) (ds ys : List D) (st : Store), fCat one ds ys st = th (fCat2 ys) (compLoop none one ds st)) ∧ (∀ (ys zs : List D) (st : Store), fCat2 ys zs st = some (ys ++ zs, st)) ∧
    (∀ (C : Q.Ctx) (own : List (Str × Nat)) (t : Tt) (c : X) (own1 : List Nat) (t1 : Tt) (it1 : It) (c1 e : X) (env : Q.Env) (gd : Option (Nat × List D)) (ds : List D) (st : Store), kComp2 C own t c own1 t1 it1 c1 e env gd (ds, st) = endC (compLoop gd (one2 C own t c own1 t1 it1 c1 e env) ds st)) ∧
    (∀ (C : Q.Ctx) (own1 : List Nat) (t1 : Tt) (it1 : It) (c1 e : X) (env : Q.Env) (t : Bool) (st : Store), kBl2 C own1 t1 it1 c1 e env (.bl t) st = if t = true then thI (kIn C own1 t1 c1 e env) (evIt C it1 env st) else some ([], st)) ∧
    (∀ (C : Q.Ctx) (own1 : List Nat) (t1 : Tt) (c1 e : X) (env : Q.Env) (gd : Option (Nat × List D)) (ds : List D) (st : Store), kIn C own1 t1 c1 e env gd (ds, st) = compLoop gd (oneI C own1 t1 c1 e env) ds st) ∧
    (∀ (C : Q.Ctx) (e : X) (env : Q.Env) (t : Bool) (st : Store), kBl C e env (.bl t) st = if t = true then th (fun d st => some ([d], st)) (ev C e env st) else some ([], st)) ∧
    (∀ (st : Store), endC (some ([], st)) = some (.lst [], st)) ∧ (∀ (a : D) (st : Store), endC (some ([a], st)) = some (.lst [a], st)) ∧ (∀ (a b : D) (st : Store), endC (some ([a, b], st)) = some (.lst [a, b], st)) ∧ (∀ (a b c : D) (st : Store), endC (some ([a, b, c], st)) = some (.lst [a, b, c], st)) ∧ (∀ (a b c d : D) (st : Store), endC (some ([a, b, c, d], st)) = some (.lst [a, b, c, d], st)) := by
  refine ⟨?_, ?_, ?_, ?_, ?_, ?_, ?_, ?_, ?_, ?_, ?_, ?_, ?_⟩ <;> intros <;> first | exact endC_ok (by simp [sizeLine]) | rfl
theorem oneI_if {C : Q.Ctx} {vs : List Nat} {i : Nat} {c e : X} {env : Q.Env} {d : D} {st : Store} :
    oneI C vs (.name i) c e env d st = if i < (wipeE env vs).length then th (kBl C e ((wipeE env vs).set i (some d))) (ev C c ((wipeE env vs).set i (some d)) st) else none := by
  split
  · rename_i h; exact oneI_name h
  · rename_i h
    unfold oneI compOne
    simp only [bindT, if_neg h]; rfl
theorem one1_pair {C : Q.Ctx} {own : List (Str × Nat)} {i j : Nat} {c e : X} {env : Q.Env} {a b : D} {st : Store} : one1 C own (.tup [.name i, .name j]) c e env (.tup [a, b]) st = if i < (wipeE env (own.map (·.2))).length ∧ j < (wipeE env (own.map (·.2))).length then
    th (kBl C e (((wipeE env (own.map (·.2))).set i (some a)).set j (some b))) (ev C c (((wipeE env (own.map (·.2))).set i (some a)).set j (some b)) st) else none := by
  unfold one1 compOne
  generalize wipeE env (own.map (·.2)) = env0
  by_cases hi : i < env0.length
  · by_cases hj : j < env0.length
    · rw [if_pos ⟨hi, hj⟩]
      have e1 : bindT (.tup [.name i, .name j]) (.tup [a, b]) env0 = some ((env0.set i (some a)).set j (some b)) := by
        simp only [bindT, bindTs, List.length_cons, List.length_nil, if_true, if_pos hi, Option.bind_some, List.length_set, if_pos hj]
      rw [e1]
      generalize (env0.set i (some a)).set j (some b) = env1
      show ((asB (ev C c env1 st)).bind _) = th (kBl C e env1) (ev C c env1 st)
      rcases ev C c env1 st with _ | ⟨x, st1⟩
      · rfl
      · cases x <;> try rfl
        rename_i t
        cases t
        · rfl
        · show (Option.map (fun q => ([q.1], q.2)) (ev C e env1 st1)) = th (fun d st => some ([d], st)) (ev C e env1 st1)
          rw [map_th]
    · rw [if_neg fun z => hj z.2]
      simp only [bindT, bindTs, List.length_cons, List.length_nil, if_true, if_pos hi, Option.bind_some, List.length_set, if_neg hj]
      rfl
  · rw [if_neg fun z => hi z.1]
    simp only [bindT, bindTs, List.length_cons, List.length_nil, if_true, if_neg hi]
    rfl
theorem pow40 (st : Store) : binD .Pow (.int 10) (.int 40) st = some (.int 10000000000000000000000000000000000000000, st) := by
  simp [binD, binI]
theorem Tri : (∀ (a b c d e f : Int) (st : Store), cmpD st .Eq (.tup [.int a, .int b, .int c]) (.tup [.int d, .int e, .int f]) = some (a == d && b == e && c == f)) ∧ (∀ (a b d e : Int) (st : Store), cmpD st .Eq (.tup [.int a, .int b]) (.tup [.int d, .int e]) = some (a == d && b == e)) ∧
    (∀ (a b d e : Int) (st : Store), cmpD st .NotEq (.tup [.int a, .int b]) (.tup [.int d, .int e]) = some (!(a == d && b == e))) ∧ (∀ (a b c : D) (st : Store), sliceD (.tup [a, b, c]) none (some 2) st = some (.tup [a, b], st)) ∧
    (∀ (a b : Int) (st : Store), biD .max false [.lst [.int a, .int b]] st = some (.int (max a b), st)) ∧ (∀ (a b : Int) (st : Store), biD .min false [.lst [.int a, .int b]] st = some (.int (min a b), st)) := by
  refine ⟨?_, ?_, ?_, ?_, ?_, ?_⟩
  · intro a b c d e f st; simp [cmpD, deq, pure1, D.ok, D.okL, D.eq, D.eqL, Bool.and_assoc]
  · intro a b d e st; simp [cmpD, deq, pure1, D.ok, D.okL, D.eq, D.eqL]
  · intro a b d e st; simp [cmpD, deq, pure1, D.ok, D.okL, D.eq, D.eqL]
  · intros; rfl
  · intros; rfl
  · intros; rfl
def kDct (ds : List D) (st : Store) : R := (dPairs ds).bind fun ps => if ps.length ≤ 15 then mkD (mergeP [] ps) st else none
theorem ev_dct {C : Q.Ctx} {xs ys : List X} {env : Q.Env} {st : Store} : ev C (.dct xs ys) env st = th kDct (evL C xs env st) := by simp only [ev]; rfl
theorem Sx2 {a b : List X} : starX (.dct a b) = false := rfl
def cndW (C : Q.Ctx) (c : X) (env : Q.Env) (st : Store) : Option (Bool × Store) := asB (ev C c env st)
theorem ex_whileC {C : Q.Ctx} {c : X} {b : List S} {env : Q.Env} {st : Store} : exS C (.while_ c b) env st = whileLoop (cndW C c) (exL C b) C.turns env st := by simp only [exS]; rfl
theorem while_step {c : Q.Env → Store → Option (Bool × Store)} {body : Q.Env → Store → RS} {n : Nat} {env env2 : Q.Env} {st st1 st2 : Store} (h : c env st = some (true, st1)) (h2 : body env st1 = some (.next, env2, st2)) : whileLoop c body (n + 1) env st = whileLoop c body n env2 st2 := by
  show ((c env st).bind _) = _
  rw [h]
  show ((body env st1).bind _) = _
  rw [h2]; rfl
theorem while_stop {c : Q.Env → Store → Option (Bool × Store)} {body : Q.Env → Store → RS} {n : Nat} {env : Q.Env} {st st1 : Store} (h : c env st = some (false, st1)) : whileLoop c body (n + 1) env st = some (.next, env, st1) := by
  show ((c env st).bind _) = _
  rw [h]; rfl
theorem Ev4 : (∀ (C : Q.Ctx) (a b : X) (env : Q.Env) (st : Store), ev C (.notInK a b) env st = th (fTwo C kNotInK b env) (ev C a env st)) ∧ (∀ (C : Q.Ctx) (a b : X) (env : Q.Env) (st : Store), ev C (.memK a b) env st = th (fTwo C kMemK b env) (ev C a env st)) := by
  refine ⟨?_, ?_⟩ <;> intros <;> (simp only [ev]; rfl)
end Q

/-! QLib: the functions that several laws share: what they give, in plain Lean. -/
namespace QL
open PySem PySem.Spec L2 Q
def d_law_draw : Q.Def := { name := "_law_draw", arity := 2, names := ["tape", "many", "prime", "cell", "found"], body := [.set (.name 2) (.int 2305843009213693951), .ite (.cmp .Lt (.sub (.var 0) (.int 2)) (.var 1)) [.set (.name 3) (.int 0), .ite (.cmp .Gt (.bi .len false [.sub (.var 0) (.int 0)]) (.int 0)) [.set (.name 3) (.sub (.sub (.var 0) (.int 0)) (.bin .Mod (.bi .int false [.sub (.var 0) (.int 1)]) (.bi .len false [.sub (.var 0) (.int 0)])))] [], .ite (.or [.cmp .GtE (.sub (.var 0) (.int 1)) (.bi .len false [.sub (.var 0) (.int 0)]), .cmp .Lt (.var 3) (.bin .Pow (.int 10) (.int 18))]) [.set (.name 3) (.bin .Mod (.bi .int false [.bin .Add (.var 3) (.bin .Mult (.int 1000003) (.sub (.var 0) (.int 1)))]) (.var 2)), .set (.name 3) (.bin .Mod (.bi .int false [.bin .Add (.bin .Add (.bin .Mult (.var 3) (.var 3)) (.bin .Mult (.int 1181783497276652981) (.var 3))) (.int 2049848353892358983)]) (.var 2)), .set (.name 3) (.bin .Mod (.bi .int false [.bin .Add (.bin .Mult (.var 3) (.var 3)) (.int 1442695040888963407)]) (.var 2))] [], .set (.sub (.var 0) (.int 1)) (.bin .Add (.sub (.var 0) (.int 1)) (.int 1)), .set (.sub (.var 0) (.int 2)) (.var 3)] [], .set (.name 4) (.bin .Mod (.bi .int false [.sub (.var 0) (.int 2)]) (.var 1)), .set (.sub (.var 0) (.int 2)) (.bin .FloorDiv (.sub (.var 0) (.int 2)) (.var 1)), .ret (.var 4)] }
def d_law_like : Q.Def := { name := "_law_like", arity := 2, names := ["one", "two", "k"], body := [.ite (.isa ["list", "tuple"] (.var 0)) [.ite (.or [.cmp .NotEq (.isa ["list"] (.var 0)) (.isa ["list"] (.var 1)), .cmp .NotEq (.isa ["tuple"] (.var 0)) (.isa ["tuple"] (.var 1))]) [.ret (.bl false)] [], .ite (.cmp .NotEq (.bi .len false [.var 0]) (.bi .len false [.var 1])) [.ret (.bl false)] [], .ret (.cmp .Eq (.comp [("k", 2)] (.name 2) (.rng1 (.bi .len false [.var 0])) (.not (.call "_law_like" [.sub (.var 0) (.var 2), .sub (.var 1) (.var 2)])) (.var 2)) (.lst false []))] [], .ite (.isa ["list", "tuple"] (.var 1)) [.ret (.bl false)] [], .ret (.and [.cmp .Eq (.isa ["bool"] (.var 0)) (.isa ["bool"] (.var 1)), .cmp .Eq (.var 0) (.var 1)])] }
def d_law_rule : Q.Def := { name := "_law_rule", arity := 1, names := ["tape", "corner", "way"], body := [.par [1, 2] [.sub (.lst false [.str "ne", .str "nw", .str "se", .str "sw"]) (.call "_law_draw" [.var 0, .int 4]), .sub (.lst false [.str "columns", .str "rows"]) (.call "_law_draw" [.var 0, .int 2])], .ret (.tup [.var 1, .var 2, .sub (.lst false [.str "next", .str "stay", .str "swap"]) (.call "_law_draw" [.var 0, .int 3]), .cmp .Eq (.call "_law_draw" [.var 0, .int 2]) (.int 0)])] }
def d_law_size : Q.Def := { name := "_law_size", arity := 2, names := ["tape", "most"], body := [.ret (.tup [.bin .Add (.int 1) (.call "_law_draw" [.var 0, .var 1]), .bin .Add (.int 1) (.call "_law_draw" [.var 0, .var 1])])] }
def d_law_spot : Q.Def := { name := "_law_spot", arity := 3, names := ["rule", "size", "index", "along", "line", "at", "row", "column"], body := [.set (.name 3) (.ite (.cmp .Eq (.sub (.var 0) (.int 1)) (.str "rows")) (.sub (.var 1) (.int 1)) (.sub (.var 1) (.int 0))), .par [4, 5] [.bin .FloorDiv (.var 2) (.var 3), .bin .Mod (.bi .int false [.var 2]) (.var 3)], .set (.tup [.name 6, .name 7]) (.ite (.cmp .Eq (.sub (.var 0) (.int 1)) (.str "rows")) (.tup [.var 4, .var 5]) (.tup [.var 5, .var 4])), .set (.name 6) (.ite (.mem (.str "s") (.sub (.var 0) (.int 0))) (.bin .Sub (.bin .Sub (.sub (.var 1) (.int 0)) (.int 1)) (.var 6)) (.var 6)), .ret (.tup [.var 6, .ite (.mem (.str "e") (.sub (.var 0) (.int 0))) (.bin .Sub (.bin .Sub (.sub (.var 1) (.int 1)) (.int 1)) (.var 7)) (.var 7)])] }
def d_cell_at : Q.Def := { name := "cell_at", arity := 3, names := ["rule", "size", "index", "rows", "columns", "row", "column"], body := [.set (.tup [.name 3, .name 4]) (.var 1), .ite (.cmp .Eq (.sub (.var 0) (.int 1)) (.str "rows")) [.par [5, 6] [.bin .FloorDiv (.var 2) (.var 4), .bin .Mod (.var 2) (.var 4)]] [.par [5, 6] [.bin .Mod (.var 2) (.var 3), .bin .FloorDiv (.var 2) (.var 3)]], .set (.name 5) (.ite (.cmp .Eq (.sub (.sub (.var 0) (.int 0)) (.int 0)) (.str "n")) (.var 5) (.bin .Sub (.bin .Sub (.var 3) (.int 1)) (.var 5))), .ret (.tup [.var 5, .ite (.cmp .Eq (.sub (.sub (.var 0) (.int 0)) (.int 1)) (.str "w")) (.var 6) (.bin .Sub (.bin .Sub (.var 4) (.int 1)) (.var 6))])] }
def d_index_of : Q.Def := { name := "index_of", arity := 3, names := ["rule", "size", "place", "rows", "columns", "row", "column"], body := [.set (.tup [.name 3, .name 4]) (.var 1), .set (.name 5) (.ite (.cmp .Eq (.sub (.sub (.var 0) (.int 0)) (.int 0)) (.str "n")) (.sub (.var 2) (.int 0)) (.bin .Sub (.bin .Sub (.var 3) (.int 1)) (.sub (.var 2) (.int 0)))), .set (.name 6) (.ite (.cmp .Eq (.sub (.sub (.var 0) (.int 0)) (.int 1)) (.str "w")) (.sub (.var 2) (.int 1)) (.bin .Sub (.bin .Sub (.var 4) (.int 1)) (.sub (.var 2) (.int 1)))), .ret (.ite (.cmp .Eq (.sub (.var 0) (.int 1)) (.str "rows")) (.bin .Add (.bin .Mult (.var 5) (.var 4)) (.var 6)) (.bin .Add (.bin .Mult (.var 6) (.var 3)) (.var 5)))] }
def d_law_number : Q.Def := { name := "_law_number", arity := 3, names := ["rule", "size", "place", "row", "column"], body := [.set (.name 3) (.ite (.mem (.str "s") (.sub (.var 0) (.int 0))) (.bin .Sub (.bin .Sub (.sub (.var 1) (.int 0)) (.int 1)) (.sub (.var 2) (.int 0))) (.sub (.var 2) (.int 0))), .set (.name 4) (.ite (.mem (.str "e") (.sub (.var 0) (.int 0))) (.bin .Sub (.bin .Sub (.sub (.var 1) (.int 1)) (.int 1)) (.sub (.var 2) (.int 1))) (.sub (.var 2) (.int 1))), .ret (.ite (.cmp .Eq (.sub (.var 0) (.int 1)) (.str "rows")) (.bin .Add (.bin .Mult (.var 3) (.sub (.var 1) (.int 1))) (.var 4)) (.bin .Add (.bin .Mult (.var 4) (.sub (.var 1) (.int 0))) (.var 3)))] }
def d_index_between : Q.Def := { name := "index_between", arity := 4, names := ["one", "other", "size", "index"], body := [.ret (.call "index_of" [.var 1, .var 2, .call "cell_at" [.var 0, .var 2, .var 3]])] }
def d_same_order : Q.Def := { name := "same_order", arity := 3, names := ["one", "other", "size", "side"], body := [.ite (.or [.cmp .Eq (.var 2) (.tup [.int 1, .int 1]), .cmp .Eq (.slice (.var 0) (.none_) (.int 2)) (.slice (.var 1) (.none_) (.int 2))]) [.ret (.bl true)] [], .ite (.notIn (.int 1) (.var 2)) [.ret (.bl false)] [], .set (.name 3) (.ite (.cmp .Eq (.sub (.var 2) (.int 0)) (.int 1)) (.int 1) (.int 0)), .ret (.cmp .Eq (.sub (.sub (.var 0) (.int 0)) (.var 3)) (.sub (.sub (.var 1) (.int 0)) (.var 3)))] }
section
variable {cst : Str → Option D} {turns : Nat} {tab : Str → Option Def} {k n : Nat} {st : Store}
def tapeAt (st : Store) (n : Nat) (cells : List Int) (i c : Int) : Prop := st[n]? = some (.lst [.lst (cells.map D.int), .int i, .int c])
theorem fmod_rng {a b : Int} (h : 0 < b) : 0 ≤ a.fmod b ∧ a.fmod b < b := by
  rw [Int.fmod_eq_emod_of_nonneg _ (Int.le_of_lt h)]
  exact ⟨Int.emod_nonneg _ (Int.ne_of_gt h), Int.emod_lt_of_pos _ h⟩
theorem abs_lt {a b : Int} {c : Nat} (h1 : -(c : Int) < a) (h2 : a < c) : a.natAbs < c := by omega
theorem lt900 {a : Int} (h : 0 ≤ a) (h2 : a < 2 ^ 900) : a.natAbs < 2 ^ 1000 := by
  have : (2 : Int) ^ 900 ≤ ((2 ^ 1000 : Nat) : Int) := by decide +kernel
  omega
theorem ltP {a : Int} (h : 0 ≤ a) (h2 : a < 2305843009213693951) : a.natAbs < 2 ^ 1000 := by
  have : (2305843009213693951 : Int) ≤ ((2 ^ 1000 : Nat) : Int) := by decide +kernel
  omega
theorem draw_ok (ht : tab "_law_draw" = some d_law_draw) {cells : List Int} {i c m : Int} (h : tapeAt st n cells i c) (hi : 0 ≤ i) (hi2 : i < 2 ^ 900) (hm : 0 < m) (hm2 : m < 2 ^ 900) :
    ∃ i' c' r, callN cst turns tab (k + 1) "_law_draw" [.loc n, .int m] st = some (.int r, st.set n (.lst [.lst (cells.map D.int), .int i', .int c'])) ∧ 0 ≤ r ∧ r < m ∧ i ≤ i' ∧ i' ≤ i + 1 := by
  unfold tapeAt at h
  have hn : n < st.length := (List.getElem?_eq_some_iff.mp h).1
  have g : ∀ o, (st.set n o)[n]? = some o := fun o => List.getElem?_set_self hn
  rw [call_eq ht rfl]
  have hmne : m ≠ 0 := by omega
  have hmN := lt900 (Int.le_of_lt hm) hm2
  have a1 : ∀ st, binD .Mult (.int 1000003) (.int i) st = some (.int (1000003 * i), st) := fun st => mult_ok (by decide) (lt900 hi hi2)
  have hp : (2305843009213693951 : Int) ≠ 0 := by decide
  have pr : ∀ x : Int, (0 ≤ x.fmod 2305843009213693951 ∧ x.fmod 2305843009213693951 < 2305843009213693951) := fun x => fmod_rng (by decide)
  have a2 : ∀ (x : Int) st, binD .Mult (.int (x.fmod 2305843009213693951)) (.int (x.fmod 2305843009213693951)) st = some (.int (x.fmod 2305843009213693951 * x.fmod 2305843009213693951), st) := fun x st => mult_ok (ltP (pr x).1 (pr x).2) (ltP (pr x).1 (pr x).2)
  have a3 : ∀ (x : Int) st, binD .Mult (.int 1181783497276652981) (.int (x.fmod 2305843009213693951)) st = some (.int (1181783497276652981 * x.fmod 2305843009213693951), st) := fun x st => mult_ok (by decide) (ltP (pr x).1 (pr x).2)
  have fin : ∀ {i1 c1 : Int}, i ≤ i1 → i1 ≤ i + 1 → ∃ i' c' r, some (D.int (c1.fmod m), st.set n (.lst [.lst (cells.map D.int), .int i1, .int (c1.fdiv m)])) = some (D.int r, st.set n (.lst [.lst (cells.map D.int), .int i', .int c'])) ∧ 0 ≤ r ∧ r < m ∧ i ≤ i' ∧ i' ≤ i + 1 := fun h1 h2 => ⟨_, _, _, rfl, (fmod_rng hm).1, (fmod_rng hm).2, h1, h2⟩
  by_cases hc : c < m
  · by_cases hcl : (0 : Int) < cells.length
    · have hne : (cells.length : Int) ≠ 0 := by omega
      obtain ⟨q1, q2⟩ := fmod_rng (a := i) hcl
      obtain ⟨x, hx⟩ : ∃ x, atI (cells.map D.int) (i.fmod cells.length) = some (.int x) := by
        have hj : (i.fmod cells.length).toNat < cells.length := by omega
        refine ⟨cells[(i.fmod cells.length).toNat], ?_⟩
        have := atI_nat (xs := cells.map D.int) (j := (i.fmod cells.length).toNat) (v := .int cells[(i.fmod cells.length).toNat]) (by rw [List.getElem?_map, List.getElem?_eq_getElem hj]; rfl)
        rw [Int.toNat_of_nonneg q1] at this
        exact this
      by_cases h1 : (cells.length : Int) ≤ i
      · simp only [d_law_draw, List.map_cons, List.map_nil, List.length_cons, List.length_nil, Nat.reduceAdd, Nat.reduceSub, Nat.reduceLT, List.replicate, List.cons_append, List.nil_append, Go, Ev1, Ev2, Ex1, Ex2, Pl, Val1, set_name, kSet_name, evl_cons, Sx, List.getElem?_cons_zero, List.getElem?_cons_succ, List.set_cons_zero, List.set_cons_succ, h, Option.map_some, decide_eq_true_eq, hc, if_true, List.length_map, hcl,
          fmod_ok hne, hx, h1, pow18, a1, a2, a3, fmod_ok hp, putL_loc, putAt_lst, setAt_1, setAt_2, g, fmod_ok hmne, fdiv_ok hmne hmN, List.set_set]
        refine fin ?_ ?_ <;> omega
      · by_cases h2 : x < 1000000000000000000
        · simp only [d_law_draw, List.map_cons, List.map_nil, List.length_cons, List.length_nil, Nat.reduceAdd, Nat.reduceSub, Nat.reduceLT, List.replicate, List.cons_append, List.nil_append, Go, Ev1, Ev2, Ex1, Ex2, Pl, Val1, set_name, kSet_name, evl_cons, Sx, List.getElem?_cons_zero, List.getElem?_cons_succ, List.set_cons_zero, List.set_cons_succ, h, Option.map_some, decide_eq_true_eq, hc, if_true, List.length_map, hcl,
            fmod_ok hne, hx, h1, h2, if_false, pow18, a1, a2, a3, fmod_ok hp, putL_loc, putAt_lst, setAt_1, setAt_2, g, fmod_ok hmne, fdiv_ok hmne hmN, List.set_set]
          refine fin ?_ ?_ <;> omega
        · simp only [d_law_draw, List.map_cons, List.map_nil, List.length_cons, List.length_nil, Nat.reduceAdd, Nat.reduceSub, Nat.reduceLT, List.replicate, List.cons_append, List.nil_append, Go, Ev1, Ev2, Ex1, Ex2, Pl, Val1, set_name, kSet_name, evl_cons, Sx, List.getElem?_cons_zero, List.getElem?_cons_succ, List.set_cons_zero, List.set_cons_succ, h, Option.map_some, decide_eq_true_eq, hc, if_true, List.length_map, hcl,
            fmod_ok hne, hx, h1, h2, if_false, pow18, a1, a2, a3, fmod_ok hp, putL_loc, putAt_lst, setAt_1, setAt_2, g, fmod_ok hmne, fdiv_ok hmne hmN, List.set_set]
          refine fin ?_ ?_ <;> omega
    · have h1 : (cells.length : Int) ≤ i := by omega
      simp only [d_law_draw, List.map_cons, List.map_nil, List.length_cons, List.length_nil, Nat.reduceAdd, Nat.reduceSub, Nat.reduceLT, List.replicate, List.cons_append, List.nil_append, Go, Ev1, Ev2, Ex1, Ex2, Pl, Val1, set_name, kSet_name, evl_cons, Sx, List.getElem?_cons_zero, List.getElem?_cons_succ, List.set_cons_zero, List.set_cons_succ, h, Option.map_some, decide_eq_true_eq, hc, if_true, if_false, List.length_map, hcl,
          h1, pow18, a1, a2, a3, fmod_ok hp, putL_loc, putAt_lst, setAt_1, setAt_2, g, fmod_ok hmne, fdiv_ok hmne hmN, List.set_set]
      refine fin ?_ ?_ <;> omega
  · simp only [d_law_draw, List.map_cons, List.map_nil, List.length_cons, List.length_nil, Nat.reduceAdd, Nat.reduceSub, Nat.reduceLT, List.replicate, List.cons_append, List.nil_append, Go, Ev1, Ev2, Ex1, Ex2, Pl, Val1, set_name, kSet_name, evl_cons, Sx, List.getElem?_cons_zero, List.getElem?_cons_succ, List.set_cons_zero, List.set_cons_succ, h, Option.map_some, decide_eq_true_eq, hc, if_true, if_false, List.length_map,
          putL_loc, putAt_lst, setAt_1, setAt_2, g, fmod_ok hmne, fdiv_ok hmne hmN, List.set_set]
    refine fin ?_ ?_ <;> omega
end
/-! ### data alike -/
def wid : Nat → D → Prop
  | _, .non => True
  | _, .bl _ => True
  | _, .int _ => True
  | _, .str _ => True
  | 0, .tup _ => False
  | 0, .lst _ => False
  | n + 1, .tup ds => ds.length ≤ 1000000 ∧ ∀ d ∈ ds, wid n d
  | n + 1, .lst ds => ds.length ≤ 1000000 ∧ ∀ d ∈ ds, wid n d
  | _, .loc _ => False
  | _, .frz _ => False
mutual
theorem eq_self : ∀ d : D, (∀ n, d ≠ .loc n) → (∀ n, d ≠ .frz n) → ∀ n, D.ok n d = true → D.eq d d = true
  | .non, _, _, _, _ => by simp [D.eq]
  | .bl _, _, _, _, _ => by simp [D.eq]
  | .int _, _, _, _, _ => by simp [D.eq]
  | .str _, _, _, _, _ => by simp [D.eq]
  | .loc n, h, _, _, _ => absurd rfl (h n)
  | .frz n, _, h, _, _ => absurd rfl (h n)
  | .tup ds, _, _, n, h => by
    cases n with
    | zero => simp [D.ok] at h
    | succ n => simp only [D.ok] at h; simp only [D.eq]; exact eq_selfL ds n h
  | .lst ds, _, _, n, h => by
    cases n with
    | zero => simp [D.ok] at h
    | succ n => simp only [D.ok] at h; simp only [D.eq]; exact eq_selfL ds n h
theorem eq_selfL : ∀ (ds : List D) (n : Nat), D.okL n ds = true → D.eqL ds ds = true
  | [], _, _ => by simp [D.eqL]
  | d :: ds, n, h => by
    simp only [D.okL, Bool.and_eq_true] at h
    simp only [D.eqL, Bool.and_eq_true]
    refine ⟨eq_self d (fun m e => by subst e; cases n <;> simp [D.ok] at h) (fun m e => by subst e; cases n <;> simp [D.ok] at h) n h.1, eq_selfL ds n h.2⟩
end
theorem okL_of {n : Nat} : ∀ {ds : List D}, (∀ d ∈ ds, D.ok n d = true) → D.okL n ds = true
  | [], _ => by simp [D.okL]
  | d :: ds, h => by
    simp only [D.okL, Bool.and_eq_true]
    exact ⟨h d List.mem_cons_self, okL_of fun x hx => h x (List.mem_cons_of_mem _ hx)⟩
theorem wid_ok : ∀ {n : Nat} {d : D}, wid n d → D.ok n d = true
  | n, .non, _ => by cases n <;> simp [D.ok]
  | n, .bl _, _ => by cases n <;> simp [D.ok]
  | n, .int _, _ => by cases n <;> simp [D.ok]
  | n, .str _, _ => by cases n <;> simp [D.ok]
  | 0, .tup _, h => by simp [wid] at h
  | 0, .lst _, h => by simp [wid] at h
  | n + 1, .tup ds, h => by
    simp only [wid] at h
    simp only [D.ok]
    exact okL_of fun d hd => wid_ok (h.2 d hd)
  | n + 1, .lst ds, h => by
    simp only [wid] at h
    simp only [D.ok]
    exact okL_of fun d hd => wid_ok (h.2 d hd)
  | n, .loc _, h => by cases n <;> simp [wid] at h
  | n, .frz _, h => by cases n <;> simp [wid] at h
theorem ok_mono : ∀ {n m : Nat}, n ≤ m → ∀ {d : D}, D.ok n d = true → D.ok m d = true := by
  intro n
  induction n with
  | zero => intro m h d hd; cases d <;> cases m <;> simp_all [D.ok]
  | succ n ih =>
    intro m h d hd
    obtain ⟨m, rfl⟩ : ∃ m', m = m' + 1 := ⟨m - 1, by omega⟩
    have hl : ∀ ds : List D, D.okL n ds = true → D.okL m ds = true := fun ds => by
      induction ds with
      | nil => intro _; simp [D.okL]
      | cons d ds ihl =>
        intro q
        simp only [D.okL, Bool.and_eq_true] at q ⊢
        exact ⟨ih (by omega) q.1, ihl q.2⟩
    cases d <;> simp_all [D.ok]
theorem deq_self {st : Store} {n : Nat} {d : D} (h : wid n d) (hn : n ≤ 20) : deq st d d = some true := by
  have q := ok_mono hn (wid_ok h)
  have p : pure1 st d = d := by cases d <;> first | rfl | (cases n <;> simp [wid] at h)
  unfold deq
  rw [p, if_pos (by rw [q]; rfl), eq_self d (fun m e => by subst e; cases n <;> simp [wid] at h) (fun m e => by subst e; cases n <;> simp [wid] at h) _ q]
theorem lim_len {n : Nat} (h : n ≤ 1000000) : lim62 (n : Int) = true := by
  unfold lim62
  exact decide_eq_true ⟨by omega, by omega⟩
theorem like_self {cst : Str → Option D} {turns : Nat} {tab : Str → Option Def} (ht : tab "_law_like" = some d_law_like) : ∀ {n k : Nat} {d : D} {st : Store}, wid n d → n ≤ 20 → n ≤ k → callN cst turns tab (k + 1) "_law_like" [d, d] st = some (.bl true, st) := by
  intro n
  induction n with
  | zero =>
    intro k d st h hn hk
    have hq : cmpD st .Eq d d = some true := deq_self h hn
    rw [call_eq ht rfl]
    cases d <;> first | (simp [wid] at h; done) | skip
    all_goals simp only [d_law_like, List.map_cons, List.map_nil, List.length_cons, List.length_nil, Nat.reduceAdd, Nat.reduceSub, Nat.reduceLT, List.replicate, List.cons_append, List.nil_append, Go, Ev1, Ev2, Ev3, Ex1, Ex2, Pl, Val1, set_name, kSet_name, kSet_tup, stTs_name, stTs_nil, setAll_cons, evl_cons, Sx, List.getElem?_cons_zero, List.getElem?_cons_succ, List.set_cons_zero, List.set_cons_succ, Option.map_some, Option.bind_some, decide_eq_true_eq, if_true, if_false, Bool.false_eq_true, asO_some, asO_no, noneX_t, noneX_i, noneX_v, noneX_n, kAug_add, kAug_sub, Isa, MkT, comp_eq, for_eq, lst_eq_nil, BEq.rfl, hq]
  | succ n ih =>
    intro k d st h hn hk
    obtain ⟨k, rfl⟩ : ∃ k', k = k' + 1 := ⟨k - 1, by omega⟩
    have hq : cmpD st .Eq d d = some true := deq_self h hn
    rw [call_eq ht rfl]
    cases d
    case loc => simp [wid] at h
    case frz => simp [wid] at h
    case tup ds =>
      simp only [wid] at h
      have hcall : ∀ i : Nat, i < ds.length → ∃ x, atI ds i = some x ∧ callN cst turns tab (k + 1) "_law_like" [x, x] st = some (.bl true, st) := fun i hi =>
        ⟨ds[i], atI_nat (List.getElem?_eq_getElem hi), ih (h.2 _ (List.getElem_mem hi)) (by omega) (by omega)⟩
      simp only [d_law_like, List.map_cons, List.map_nil, List.length_cons, List.length_nil, Nat.reduceAdd, Nat.reduceSub, Nat.reduceLT, List.replicate, List.cons_append, List.nil_append, Go, Ev1, Ev2, Ev3, Ex1, Ex2, Pl, Val1, set_name, kSet_name, kSet_tup, stTs_name, stTs_nil, setAll_cons, evl_cons, Sx, List.getElem?_cons_zero, List.getElem?_cons_succ, List.set_cons_zero, List.set_cons_succ, Option.map_some, Option.bind_some, decide_eq_true_eq, if_true, if_false, Bool.false_eq_true, asO_some, asO_no, noneX_t, noneX_i, noneX_v, noneX_n, kAug_add, kAug_sub, Isa, MkT, comp_eq, for_eq, lst_eq_nil, BEq.rfl, Bool.not_true, lim_len h.1]
      rw [compLoop_nil fun d hd => ?_]
      · rfl
      · obtain ⟨i, hi, rfl⟩ := rangeD_mem hd
        obtain ⟨x, hx, hc⟩ := hcall i hi
        rw [one1_name (by show (2 : Nat) < 3; decide)]
        simp only [wipeE, List.map_cons, List.map_nil, List.length_cons, List.length_nil, Nat.reduceAdd, Nat.reduceSub, Nat.reduceLT, List.replicate, List.cons_append, List.nil_append, Go, Ev1, Ev2, Ev3, Ex1, Ex2, Pl, Val1, set_name, kSet_name, kSet_tup, stTs_name, stTs_nil, setAll_cons, evl_cons, Sx, List.getElem?_cons_zero, List.getElem?_cons_succ, List.set_cons_zero, List.set_cons_succ, Option.map_some, Option.bind_some, decide_eq_true_eq, if_true, if_false, Bool.false_eq_true, asO_some, asO_no, noneX_t, noneX_i, noneX_v, noneX_n, kAug_add, kAug_sub, Isa, MkT, comp_eq, for_eq, lst_eq_nil, BEq.rfl, hx, hc, kBl_bl, Bool.not_true]
    case lst ds =>
      simp only [wid] at h
      have hcall : ∀ i : Nat, i < ds.length → ∃ x, atI ds i = some x ∧ callN cst turns tab (k + 1) "_law_like" [x, x] st = some (.bl true, st) := fun i hi =>
        ⟨ds[i], atI_nat (List.getElem?_eq_getElem hi), ih (h.2 _ (List.getElem_mem hi)) (by omega) (by omega)⟩
      simp only [d_law_like, List.map_cons, List.map_nil, List.length_cons, List.length_nil, Nat.reduceAdd, Nat.reduceSub, Nat.reduceLT, List.replicate, List.cons_append, List.nil_append, Go, Ev1, Ev2, Ev3, Ex1, Ex2, Pl, Val1, set_name, kSet_name, kSet_tup, stTs_name, stTs_nil, setAll_cons, evl_cons, Sx, List.getElem?_cons_zero, List.getElem?_cons_succ, List.set_cons_zero, List.set_cons_succ, Option.map_some, Option.bind_some, decide_eq_true_eq, if_true, if_false, Bool.false_eq_true, asO_some, asO_no, noneX_t, noneX_i, noneX_v, noneX_n, kAug_add, kAug_sub, Isa, MkT, comp_eq, for_eq, lst_eq_nil, BEq.rfl, Bool.not_true, lim_len h.1]
      rw [compLoop_nil fun d hd => ?_]
      · rfl
      · obtain ⟨i, hi, rfl⟩ := rangeD_mem hd
        obtain ⟨x, hx, hc⟩ := hcall i hi
        rw [one1_name (by show (2 : Nat) < 3; decide)]
        simp only [wipeE, List.map_cons, List.map_nil, List.length_cons, List.length_nil, Nat.reduceAdd, Nat.reduceSub, Nat.reduceLT, List.replicate, List.cons_append, List.nil_append, Go, Ev1, Ev2, Ev3, Ex1, Ex2, Pl, Val1, set_name, kSet_name, kSet_tup, stTs_name, stTs_nil, setAll_cons, evl_cons, Sx, List.getElem?_cons_zero, List.getElem?_cons_succ, List.set_cons_zero, List.set_cons_succ, Option.map_some, Option.bind_some, decide_eq_true_eq, if_true, if_false, Bool.false_eq_true, asO_some, asO_no, noneX_t, noneX_i, noneX_v, noneX_n, kAug_add, kAug_sub, Isa, MkT, comp_eq, for_eq, lst_eq_nil, BEq.rfl, hx, hc, kBl_bl, Bool.not_true]
    all_goals simp only [d_law_like, List.map_cons, List.map_nil, List.length_cons, List.length_nil, Nat.reduceAdd, Nat.reduceSub, Nat.reduceLT, List.replicate, List.cons_append, List.nil_append, Go, Ev1, Ev2, Ev3, Ex1, Ex2, Pl, Val1, set_name, kSet_name, kSet_tup, stTs_name, stTs_nil, setAll_cons, evl_cons, Sx, List.getElem?_cons_zero, List.getElem?_cons_succ, List.set_cons_zero, List.set_cons_succ, Option.map_some, Option.bind_some, decide_eq_true_eq, if_true, if_false, Bool.false_eq_true, asO_some, asO_no, noneX_t, noneX_i, noneX_v, noneX_n, kAug_add, kAug_sub, Isa, MkT, comp_eq, for_eq, lst_eq_nil, BEq.rfl, hq]
/-! ### rules, sizes, places -/
structure Rule where
  s : Bool
  e : Bool
  r : Bool
  m : Nat
  b : Bool
  deriving DecidableEq
def corner : Bool → Bool → Str
  | false, true => "ne"
  | false, false => "nw"
  | true, true => "se"
  | true, false => "sw"
def wayS (r : Bool) : Str := if r = true then "rows" else "columns"
def memS : Nat → Str
  | 0 => "next"
  | 1 => "stay"
  | _ => "swap"
def ruleD (r : Rule) : D := .tup [.str (corner r.s r.e), .str (wayS r.r), .str (memS r.m), .bl r.b]
def sizeD (R C : Int) : D := .tup [.int R, .int C]
theorem RuleE : (∀ (r : Rule) (st : Store), subD st (ruleD r) (.int 0) = some (.str (corner r.s r.e))) ∧ (∀ (r : Rule) (st : Store), subD st (ruleD r) (.int 1) = some (.str (wayS r.r))) ∧ (∀ (r : Rule) (st : Store), subD st (ruleD r) (.int 2) = some (.str (memS r.m))) ∧ (∀ (r : Rule) (st : Store), subD st (ruleD r) (.int 3) = some (.bl r.b)) ∧
    (∀ (s e : Bool) (st : Store), memD st (.str "s") (.str (corner s e)) = some s) ∧ (∀ (s e : Bool) (st : Store), memD st (.str "e") (.str (corner s e)) = some e) ∧
    (∀ (s e : Bool) (st : Store), subD st (.str (corner s e)) (.int 0) = some (.str (if s = true then "s" else "n"))) ∧ (∀ (s e : Bool) (st : Store), subD st (.str (corner s e)) (.int 1) = some (.str (if e = true then "e" else "w"))) ∧
    (∀ (r : Bool), (wayS r == ("rows" : Str)) = r) ∧ (∀ (s : Bool), ((if s = true then ("s" : Str) else "n") == ("n" : Str)) = (!s)) ∧ (∀ (s : Bool), ((if s = true then ("e" : Str) else "w") == ("w" : Str)) = (!s)) ∧ (("n" : Str) == ("n" : Str)) = true ∧ (("s" : Str) == ("n" : Str)) = false ∧ (("w" : Str) == ("w" : Str)) = true ∧ (("e" : Str) == ("w" : Str)) = false ∧
    (∀ (R C : Int) (st : Store), subD st (sizeD R C) (.int 0) = some (.int R)) ∧ (∀ (R C : Int) (st : Store), subD st (sizeD R C) (.int 1) = some (.int C)) := by
  refine ⟨fun _ _ => rfl, fun _ _ => rfl, fun _ _ => rfl, fun _ _ => rfl, ?_, ?_, ?_, ?_, ?_, ?_, ?_, rfl, rfl, rfl, rfl, fun _ _ _ => rfl, fun _ _ _ => rfl⟩
  · intro s e st; cases s <;> cases e <;> rfl
  · intro s e st; cases s <;> cases e <;> rfl
  · intro s e st; cases s <;> cases e <;> rfl
  · intro s e st; cases s <;> cases e <;> rfl
  · intro r; cases r <;> rfl
  · intro r; cases r <;> rfl
  · intro r; cases r <;> rfl
theorem RuleQ : (∀ (R C : Int) (st : Store), cmpD st .Eq (sizeD R C) (.tup [.int 1, .int 1]) = some (R == 1 && C == 1)) ∧ (∀ (r : Rule) (st : Store), sliceD (ruleD r) none (some 2) st = some (.tup [.str (corner r.s r.e), .str (wayS r.r)], st)) ∧
    (∀ (a b c d : Str) (st : Store), cmpD st .Eq (.tup [.str a, .str b]) (.tup [.str c, .str d]) = some (a == c && b == d)) ∧ (∀ (s e s' e' : Bool), (corner s e == corner s' e') = (s == s' && e == e')) ∧ (∀ (s s' : Bool), (wayS s == wayS s') = (s == s')) ∧
    (∀ (R C : Int) (st : Store), memD st (.int 1) (sizeD R C) = some (R == 1 || C == 1)) ∧ (∀ (s t : Bool), ((if s = true then ("s" : Str) else "n") == (if t = true then ("s" : Str) else "n")) = (s == t)) ∧ (∀ (s t : Bool), ((if s = true then ("e" : Str) else "w") == (if t = true then ("e" : Str) else "w")) = (s == t)) := by
  refine ⟨?_, ?_, ?_, ?_, ?_, ?_, ?_, ?_⟩
  · intro R C st; simp [cmpD, deq, pure1, sizeD, D.ok, D.okL, D.eq, D.eqL]
  · intro r st; rfl
  · intro a b c d st; simp [cmpD, deq, pure1, D.ok, D.okL, D.eq, D.eqL]
  · intro s e s' e'; cases s <;> cases e <;> cases s' <;> cases e' <;> rfl
  · intro s s'; cases s <;> cases s' <;> rfl
  · intro R C st; simp [memD, sizeD, flatD, D.eq]
  · intro s s'; cases s <;> cases s' <;> rfl
  · intro s s'; cases s <;> cases s' <;> rfl
section
variable {cst : Str → Option D} {turns : Nat} {tab : Str → Option Def} {k n : Nat} {st st0 : Store} {cells : List Int} {b : Int}
/-- the tape at its place, at most b cells read; all else as in st0 -/
def Tp (cells : List Int) (n : Nat) (b : Int) (st0 st : Store) : Prop := (∃ i c, tapeAt st n cells i c ∧ 0 ≤ i ∧ i ≤ b) ∧ st.length = st0.length ∧ ∀ m, m ≠ n → st[m]? = st0[m]?
theorem Tp.mono {b' : Int} (h : Tp cells n b st0 st) (hb : b ≤ b') : Tp cells n b' st0 st := by
  obtain ⟨⟨i, c, h1, h2, h3⟩, h4⟩ := h
  exact ⟨⟨i, c, h1, h2, by omega⟩, h4⟩
theorem draw (ht : tab "_law_draw" = some d_law_draw) {m : Int} (h : Tp cells n b st0 st) (hb : b ≤ 1000000000) (hm : 0 < m) (hm2 : m ≤ 2 ^ 200) :
    ∃ st' r, callN cst turns tab (k + 1) "_law_draw" [.loc n, .int m] st = some (.int r, st') ∧ (0 ≤ r ∧ r < m) ∧ Tp cells n (b + 1) st0 st' := by
  obtain ⟨⟨i, c, h1, h2, h3⟩, h4, h5⟩ := h
  have e9 : (1000000000 : Int) < 2 ^ 900 := by decide +kernel
  have e8 : (2 : Int) ^ 200 < 2 ^ 900 := by decide +kernel
  obtain ⟨i', c', r, q1, q2, q3, q4, q5⟩ := draw_ok (cst := cst) (turns := turns) (k := k) ht h1 h2 (by omega) hm (Int.lt_of_le_of_lt hm2 e8)
  have hn : n < st.length := (List.getElem?_eq_some_iff.mp h1).1
  refine ⟨_, r, q1, ⟨q2, q3⟩, ⟨i', c', List.getElem?_set_self hn, by omega, by omega⟩, by simpa using h4, fun m hm => ?_⟩
  rw [List.getElem?_set_ne (Ne.symm hm)]
  exact h5 m hm
theorem pick4 {r : Int} (h : 0 ≤ r ∧ r < 4) : ∃ s e, ∀ st, subD st (.lst [.str "ne", .str "nw", .str "se", .str "sw"]) (.int r) = some (.str (corner s e)) := by
  obtain ⟨h1, h2⟩ := h
  obtain rfl | rfl | rfl | rfl : r = 0 ∨ r = 1 ∨ r = 2 ∨ r = 3 := by omega
  · exact ⟨false, true, fun _ => rfl⟩
  · exact ⟨false, false, fun _ => rfl⟩
  · exact ⟨true, true, fun _ => rfl⟩
  · exact ⟨true, false, fun _ => rfl⟩
theorem pick2 {r : Int} (h : 0 ≤ r ∧ r < 2) : ∃ s, ∀ st, subD st (.lst [.str "columns", .str "rows"]) (.int r) = some (.str (wayS s)) := by
  obtain ⟨h1, h2⟩ := h
  obtain rfl | rfl : r = 0 ∨ r = 1 := by omega
  · exact ⟨false, fun _ => rfl⟩
  · exact ⟨true, fun _ => rfl⟩
theorem pick3 {r : Int} (h : 0 ≤ r ∧ r < 3) : ∃ m, m < 3 ∧ ∀ st, subD st (.lst [.str "next", .str "stay", .str "swap"]) (.int r) = some (.str (memS m)) := by
  obtain ⟨h1, h2⟩ := h
  obtain rfl | rfl | rfl : r = 0 ∨ r = 1 ∨ r = 2 := by omega
  · exact ⟨0, by decide, fun _ => rfl⟩
  · exact ⟨1, by decide, fun _ => rfl⟩
  · exact ⟨2, by decide, fun _ => rfl⟩
theorem rule (ht : tab "_law_draw" = some d_law_draw) (ht2 : tab "_law_rule" = some d_law_rule) (h : Tp cells n b st0 st) (hb : b ≤ 999999990) :
    ∃ st' r, callN cst turns tab (k + 2) "_law_rule" [.loc n] st = some (ruleD r, st') ∧ r.m < 3 ∧ Tp cells n (b + 4) st0 st' := by
  obtain ⟨st1, r1, e1, q1, t1⟩ := draw (cst := cst) (turns := turns) (k := k) (m := 4) ht h (by omega) (by decide) (by decide)
  obtain ⟨st2, r2, e2, q2, t2⟩ := draw (cst := cst) (turns := turns) (k := k) (m := 2) ht t1 (by omega) (by decide) (by decide)
  obtain ⟨st3, r3, e3, q3, t3⟩ := draw (cst := cst) (turns := turns) (k := k) (m := 3) ht t2 (by omega) (by decide) (by decide)
  obtain ⟨st4, r4, e4, q4, t4⟩ := draw (cst := cst) (turns := turns) (k := k) (m := 2) ht t3 (by omega) (by decide) (by decide)
  obtain ⟨s, e, p1⟩ := pick4 q1
  obtain ⟨w, p2⟩ := pick2 q2
  obtain ⟨m, hm, p3⟩ := pick3 q3
  refine ⟨st4, ⟨s, e, w, m, r4 == 0⟩, ?_, hm, t4.mono (by omega)⟩
  rw [call_eq ht2 rfl]
  simp only [d_law_rule, p1, p2, p3, List.map_cons, List.map_nil, List.length_cons, List.length_nil, Nat.reduceAdd, Nat.reduceSub, Nat.reduceLT, List.replicate, List.cons_append, List.nil_append, Go, Ev1, Ev2, Ev3, Ex1, Ex2, Pl, Val1, set_name, kSet_name, kSet_tup, stTs_name, stTs_nil, setAll_cons, evl_cons, Sx, List.getElem?_cons_zero, List.getElem?_cons_succ, List.set_cons_zero, List.set_cons_succ, Option.map_some, Option.bind_some, decide_eq_true_eq, if_true, if_false, Bool.false_eq_true, asO_some, asO_no, noneX_t, noneX_i, noneX_v, noneX_n, kAug_add, kAug_sub, Isa, MkT, comp_eq, for_eq, lst_eq_nil, BEq.rfl, e1, e2, e3, e4, p1, p2, p3]
  rfl
theorem size (ht : tab "_law_draw" = some d_law_draw) (ht2 : tab "_law_size" = some d_law_size) {m : Int} (h : Tp cells n b st0 st) (hb : b ≤ 999999990) (hm : 0 < m) (hm2 : m ≤ 2 ^ 200) :
    ∃ st' R C, callN cst turns tab (k + 2) "_law_size" [.loc n, .int m] st = some (sizeD R C, st') ∧ (1 ≤ R ∧ R ≤ m) ∧ (1 ≤ C ∧ C ≤ m) ∧ Tp cells n (b + 2) st0 st' := by
  obtain ⟨st1, r1, e1, q1, t1⟩ := draw (cst := cst) (turns := turns) (k := k) (m := m) ht h (by omega) hm hm2
  obtain ⟨st2, r2, e2, q2, t2⟩ := draw (cst := cst) (turns := turns) (k := k) (m := m) ht t1 (by omega) hm hm2
  refine ⟨st2, 1 + r1, 1 + r2, ?_, by omega, by omega, t2.mono (by omega)⟩
  rw [call_eq ht2 rfl]
  simp only [d_law_size, List.map_cons, List.map_nil, List.length_cons, List.length_nil, Nat.reduceAdd, Nat.reduceSub, Nat.reduceLT, List.replicate, List.cons_append, List.nil_append, Go, Ev1, Ev2, Ev3, Ex1, Ex2, Pl, Val1, set_name, kSet_name, kSet_tup, stTs_name, stTs_nil, setAll_cons, evl_cons, Sx, List.getElem?_cons_zero, List.getElem?_cons_succ, List.set_cons_zero, List.set_cons_succ, Option.map_some, Option.bind_some, decide_eq_true_eq, if_true, if_false, Bool.false_eq_true, asO_some, asO_no, noneX_t, noneX_i, noneX_v, noneX_n, kAug_add, kAug_sub, Isa, MkT, comp_eq, for_eq, lst_eq_nil, BEq.rfl, e1, e2]
  rfl
def spotV (r : Rule) (R C i : Int) : Int × Int :=
  let along := if r.r = true then C else R
  let p : Int × Int := if r.r = true then (i.fdiv along, i.fmod along) else (i.fmod along, i.fdiv along)
  (if r.s = true then R - 1 - p.1 else p.1, if r.e = true then C - 1 - p.2 else p.2)
def placeD (p : Int × Int) : D := .tup [.int p.1, .int p.2]
theorem PlaceE : (∀ (p : Int × Int) (st : Store), subD st (placeD p) (.int 0) = some (.int p.1)) ∧ (∀ (p : Int × Int) (st : Store), subD st (placeD p) (.int 1) = some (.int p.2)) := ⟨fun _ _ => rfl, fun _ _ => rfl⟩
theorem spot (ht : tab "_law_spot" = some d_law_spot) {r : Rule} {R C i : Int} (hR : 0 < R ∧ R < 2 ^ 900) (hC : 0 < C ∧ C < 2 ^ 900) : callN cst turns tab (k + 1) "_law_spot" [ruleD r, sizeD R C, .int i] st = some (placeD (spotV r R C i), st) := by
  have hR0 : R ≠ 0 := by omega
  have hC0 : C ≠ 0 := by omega
  have hR1 := lt900 (Int.le_of_lt hR.1) hR.2
  have hC1 := lt900 (Int.le_of_lt hC.1) hC.2
  rw [call_eq ht rfl]
  obtain ⟨s, e, w, m, b⟩ := r
  cases w <;> cases s <;> cases e <;> simp only [d_law_spot, RuleE, List.map_cons, List.map_nil, List.length_cons, List.length_nil, Nat.reduceAdd, Nat.reduceSub, Nat.reduceLT, List.replicate, List.cons_append, List.nil_append, Go, Ev1, Ev2, Ev3, Ex1, Ex2, Pl, Val1, set_name, kSet_name, kSet_tup, stTs_name, stTs_nil, setAll_cons, evl_cons, Sx, List.getElem?_cons_zero, List.getElem?_cons_succ, List.set_cons_zero, List.set_cons_succ, Option.map_some, Option.bind_some, decide_eq_true_eq, if_true, if_false, Bool.false_eq_true, asO_some, asO_no, noneX_t, noneX_i, noneX_v, noneX_n, kAug_add, kAug_sub, Isa, MkT, comp_eq, for_eq, lst_eq_nil, BEq.rfl, fdiv_ok hR0 hR1, fdiv_ok hC0 hC1, fmod_ok hR0, fmod_ok hC0] <;> rfl
theorem cell_at (ht : tab "cell_at" = some d_cell_at) {r : Rule} {R C i : Int} (hR : 0 < R ∧ R < 2 ^ 900) (hC : 0 < C ∧ C < 2 ^ 900) : callN cst turns tab (k + 1) "cell_at" [ruleD r, sizeD R C, .int i] st = some (placeD (spotV r R C i), st) := by
  have hR0 : R ≠ 0 := by omega
  have hC0 : C ≠ 0 := by omega
  have hR1 := lt900 (Int.le_of_lt hR.1) hR.2
  have hC1 := lt900 (Int.le_of_lt hC.1) hC.2
  rw [call_eq ht rfl]
  obtain ⟨s, e, w, m, b⟩ := r
  have e1 : sizeD R C = .tup [.int R, .int C] := rfl
  rw [e1]
  cases w <;> cases s <;> cases e <;> simp only [d_cell_at, RuleE, List.map_cons, List.map_nil, List.length_cons, List.length_nil, Nat.reduceAdd, Nat.reduceSub, Nat.reduceLT, List.replicate, List.cons_append, List.nil_append, Go, Ev1, Ev2, Ev3, Ex1, Ex2, Pl, Val1, set_name, kSet_name, kSet_tup, stTs_name, stTs_nil, setAll_cons, evl_cons, Sx, List.getElem?_cons_zero, List.getElem?_cons_succ, List.set_cons_zero, List.set_cons_succ, Option.map_some, Option.bind_some, decide_eq_true_eq, if_true, if_false, Bool.false_eq_true, asO_some, asO_no, noneX_t, noneX_i, noneX_v, noneX_n, kAug_add, kAug_sub, Isa, MkT, comp_eq, for_eq, lst_eq_nil, BEq.rfl, fdiv_ok hR0 hR1, fdiv_ok hC0 hC1, fmod_ok hR0, fmod_ok hC0, Bool.not_false, Bool.not_true] <;> rfl
def numV (r : Rule) (R C : Int) (p : Int × Int) : Int :=
  let row := if r.s = true then R - 1 - p.1 else p.1
  let col := if r.e = true then C - 1 - p.2 else p.2
  if r.r = true then row * C + col else col * R + row
theorem lt901 {R x : Int} (hR : 0 < R ∧ R < 2 ^ 900) (hx : -(2 ^ 900) < x ∧ x < 2 ^ 900) : x.natAbs < 2 ^ 1000 ∧ (R - 1 - x).natAbs < 2 ^ 1000 := by
  have : (2 : Int) ^ 900 + 2 ^ 900 + 2 ^ 900 ≤ ((2 ^ 1000 : Nat) : Int) := by decide +kernel
  omega
theorem index_of (ht : tab "index_of" = some d_index_of) {r : Rule} {R C : Int} {p : Int × Int} (hR : 0 < R ∧ R < 2 ^ 900) (hC : 0 < C ∧ C < 2 ^ 900) (h1 : -(2 ^ 900) < p.1 ∧ p.1 < 2 ^ 900) (h2 : -(2 ^ 900) < p.2 ∧ p.2 < 2 ^ 900) :
    callN cst turns tab (k + 1) "index_of" [ruleD r, sizeD R C, placeD p] st = some (.int (numV r R C p), st) := by
  have hR1 := lt900 (Int.le_of_lt hR.1) hR.2
  have hC1 := lt900 (Int.le_of_lt hC.1) hC.2
  have p1 := lt901 hR h1
  have p2 := lt901 hC h2
  rw [call_eq ht rfl]
  obtain ⟨s, e, w, m, b⟩ := r
  have e1 : sizeD R C = .tup [.int R, .int C] := rfl
  rw [e1]
  cases w <;> cases s <;> cases e <;> simp only [d_index_of, RuleE, PlaceE, List.map_cons, List.map_nil, List.length_cons, List.length_nil, Nat.reduceAdd, Nat.reduceSub, Nat.reduceLT, List.replicate, List.cons_append, List.nil_append, Go, Ev1, Ev2, Ev3, Ex1, Ex2, Pl, Val1, set_name, kSet_name, kSet_tup, stTs_name, stTs_nil, setAll_cons, evl_cons, Sx, List.getElem?_cons_zero, List.getElem?_cons_succ, List.set_cons_zero, List.set_cons_succ, Option.map_some, Option.bind_some, decide_eq_true_eq, if_true, if_false, Bool.false_eq_true, asO_some, asO_no, noneX_t, noneX_i, noneX_v, noneX_n, kAug_add, kAug_sub, Isa, MkT, comp_eq, for_eq, lst_eq_nil, BEq.rfl, mult_ok p1.1 hC1, mult_ok p1.2 hC1, mult_ok p2.1 hR1, mult_ok p2.2 hR1, Bool.not_false, Bool.not_true] <;> rfl
theorem list_frz {ns : List Int} (h : ns.length ≤ 63) : biD .list false [.frz ns] st = some (.lst (ns.map D.int), st) := by
  show mkL false (ns.map D.int) st = _
  exact mkL_f (by rw [List.length_map]; exact Nat.le_trans h (by decide))
theorem tape0 {a b c : D} : mkL true [a, b, c] ([] : Store) = some (.loc 0, [.lst [a, b, c]]) := mkL_t (by simp [sizeLine])
theorem Tp.start {ns : List Int} : Tp ns 0 0 [.lst [.lst (ns.map D.int), .int 0, .int 0]] [.lst [.lst (ns.map D.int), .int 0, .int 0]] := ⟨⟨0, 0, rfl, Int.le_refl _, Int.le_refl _⟩, rfl, fun _ _ => rfl⟩
def places (r : Rule) (R C : Int) : List D := (List.range (R * C).toNat).map fun (i : Nat) => placeD (spotV r R C i)
theorem range_map {g : D → D} {f : Int → D} {n : Int} (hg : ∀ i, g (.int i) = f i) : (rangeD 0 n).map g = (List.range n.toNat).map fun (i : Nat) => f i := by
  unfold rangeD
  rw [List.map_map, Int.sub_zero]
  refine List.map_congr_left fun i _ => ?_
  show g (.int (0 + i)) = f i
  rw [hg, Int.zero_add]
def onI (f : Int → D) : D → D
  | .int i => f i
  | _ => .non
/-- a comprehension over a range, each item its value -/
theorem comp_range {one : D → Store → Option (List D × Store)} {f : Int → D} {n : Int} (hn : n ≤ 1000000) (h : ∀ i : Int, 0 ≤ i → i < n → one (.int i) st = some ([f i], st)) : endC (compLoop none one (rangeD 0 n) st) = some (.lst ((List.range n.toNat).map fun (i : Nat) => f i), st) := by
  rw [compLoop_map (onI f) fun d hd => ?_, range_map (f := f) fun i => rfl]
  · refine endC_ok ?_
    rw [List.length_map, List.length_range]
    exact Nat.le_trans (by omega : n.toNat ≤ 1000000) (by decide)
  · unfold rangeD at hd
    obtain ⟨i, hi, rfl⟩ := List.mem_map.mp hd
    have := List.mem_range.mp hi
    exact h _ (by omega) (by omega)
theorem lim_of {i : Int} (h : -1000000000000000000 ≤ i) (h2 : i ≤ 1000000000000000000) : lim62 i = true := decide_eq_true ⟨by omega, by omega⟩
end
/-! ### places and indices -/
def bodyOf : S → List S
  | .for_ _ _ b => b
  | _ => []
theorem big_of {x : Int} (h : 0 < x) (h2 : x ≤ 1000000000000000000000000000000) : 0 < x ∧ x < 2 ^ 900 := ⟨h, Int.lt_of_le_of_lt h2 (by decide +kernel)⟩
theorem big_in {x : Int} (h : -1000000000000000000000000000000 ≤ x) (h2 : x ≤ 1000000000000000000000000000000) : -(2 ^ 900) < x ∧ x < 2 ^ 900 := ⟨Int.lt_of_lt_of_le (by decide +kernel) h, Int.lt_of_le_of_lt h2 (by decide +kernel)⟩
theorem ediv_rng {i A B : Int} (hA : 0 < A) (hi : 0 ≤ i) (h : i < B * A) : 0 ≤ i / A ∧ i / A < B ∧ 0 ≤ i % A ∧ i % A < A ∧ i / A * A + i % A = i := by
  refine ⟨Int.ediv_nonneg hi (Int.le_of_lt hA), (Int.ediv_lt_iff_lt_mul hA).mpr h, Int.emod_nonneg _ (Int.ne_of_gt hA), Int.emod_lt_of_pos _ hA, ?_⟩
  have := Int.mul_ediv_add_emod i A
  rw [Int.mul_comm] at this
  exact this
theorem spot_rng {r : Rule} {R C i : Int} (hR : 0 < R) (hC : 0 < C) (hi : 0 ≤ i) (h : i < R * C) : (0 ≤ (spotV r R C i).1 ∧ (spotV r R C i).1 < R) ∧ (0 ≤ (spotV r R C i).2 ∧ (spotV r R C i).2 < C) := by
  obtain ⟨s, e, w, m, b⟩ := r
  cases w
  · obtain ⟨q1, q2, q3, q4, q5⟩ := ediv_rng hR hi (by rw [Int.mul_comm]; exact h)
    cases s <;> cases e <;> simp only [spotV, Bool.false_eq_true, if_false, if_true, Int.fdiv_eq_ediv_of_nonneg _ (Int.le_of_lt hR), Int.fmod_eq_emod_of_nonneg _ (Int.le_of_lt hR)] <;> omega
  · obtain ⟨q1, q2, q3, q4, q5⟩ := ediv_rng hC hi h
    cases s <;> cases e <;> simp only [spotV, Bool.false_eq_true, if_false, if_true, Int.fdiv_eq_ediv_of_nonneg _ (Int.le_of_lt hC), Int.fmod_eq_emod_of_nonneg _ (Int.le_of_lt hC)] <;> omega
theorem num_spot {r : Rule} {R C i : Int} (hR : 0 < R) (hC : 0 < C) (hi : 0 ≤ i) (h : i < R * C) : numV r R C (spotV r R C i) = i := by
  obtain ⟨s, e, w, m, b⟩ := r
  cases w
  · obtain ⟨q1, q2, q3, q4, q5⟩ := ediv_rng hR hi (by rw [Int.mul_comm]; exact h)
    have f1 : ∀ x : Int, C - 1 - (C - 1 - x) = x := fun x => by omega
    have f2 : ∀ x : Int, R - 1 - (R - 1 - x) = x := fun x => by omega
    cases s <;> cases e <;> simp only [numV, spotV, Bool.false_eq_true, if_false, if_true, Int.fdiv_eq_ediv_of_nonneg _ (Int.le_of_lt hR), Int.fmod_eq_emod_of_nonneg _ (Int.le_of_lt hR), f1, f2, q5]
  · obtain ⟨q1, q2, q3, q4, q5⟩ := ediv_rng hC hi h
    have f1 : ∀ x : Int, C - 1 - (C - 1 - x) = x := fun x => by omega
    have f2 : ∀ x : Int, R - 1 - (R - 1 - x) = x := fun x => by omega
    cases s <;> cases e <;> simp only [numV, spotV, Bool.false_eq_true, if_false, if_true, Int.fdiv_eq_ediv_of_nonneg _ (Int.le_of_lt hC), Int.fmod_eq_emod_of_nonneg _ (Int.le_of_lt hC), f1, f2, q5]
theorem places_len {r : Rule} {R C : Int} : (places r R C).length = (R * C).toNat := by simp [places]
theorem ne_self {st : Store} {n : Nat} {d : D} (h : wid n d) (hn : n ≤ 20) : cmpD st .NotEq d d = some false := by
  show (deq st d d).map not = _
  rw [deq_self h hn]; rfl
theorem wid_place {n : Nat} {p : Int × Int} : wid (n + 1) (placeD p) := ⟨by simp, fun d hd => by
  simp only [List.mem_cons, List.not_mem_nil, or_false] at hd
  rcases hd with rfl | rfl <;> simp [wid]⟩
theorem wid_places {n : Nat} {r : Rule} {R C : Int} (h : R * C ≤ 1000000) : wid (n + 2) (.lst (places r R C)) := ⟨by rw [places_len]; omega, fun d hd => by
  obtain ⟨i, _, rfl⟩ := List.mem_map.mp hd
  exact wid_place⟩
theorem wid_ints {n : Nat} {f : Nat → Int} {m : Nat} (h : m ≤ 1000000) : wid (n + 1) (.lst ((List.range m).map fun i => .int (f i))) := ⟨by simpa using h, fun d hd => by
  obtain ⟨i, _, rfl⟩ := List.mem_map.mp hd
  simp [wid]⟩
theorem rangeD_eq {n : Int} : rangeD 0 n = (List.range n.toNat).map fun (i : Nat) => .int i := by
  unfold rangeD
  rw [Int.sub_zero]
  refine List.map_congr_left fun i _ => ?_
  rw [Int.zero_add]
theorem wid_range {n : Nat} {m : Int} (h : m ≤ 1000000) : wid (n + 1) (.lst (rangeD 0 m)) := by
  rw [rangeD_eq]
  exact wid_ints (by omega)
theorem mul_le {R C a b : Int} (hR : 0 < R ∧ R ≤ a) (hC : 0 < C ∧ C ≤ b) : 0 < R * C ∧ R * C ≤ a * b := ⟨Int.mul_pos hR.1 hC.1, Int.mul_le_mul hR.2 hC.2 (Int.le_of_lt hC.1) (by omega)⟩
/-- a comprehension over a list, each item its value -/
theorem comp_list {st : Store} {one : D → Store → Option (List D × Store)} {g : D → D} {ds : List D} (hn : ds.length ≤ 1000000) (h : ∀ d ∈ ds, one d st = some ([g d], st)) : endC (compLoop none one ds st) = some (.lst (ds.map g), st) := by
  rw [compLoop_map g h]
  refine endC_ok ?_
  rw [List.length_map]
  exact Nat.le_trans hn (by decide)
theorem loop_map {α : Type} {st : Store} {one : D → Store → Option (List D × Store)} {F G : α → D} : ∀ {is : List α}, (∀ i ∈ is, one (F i) st = some ([G i], st)) → compLoop none one (is.map F) st = some (is.map G, st)
  | [], _ => rfl
  | i :: is, h => by
    have ih := loop_map (fun j hj => h j (List.mem_cons_of_mem i hj))
    show (if guardOk none st = true then (one (F i) st).bind fun r => (compLoop none one (is.map F) r.2).bind fun q => some (r.1 ++ q.1, q.2) else none) = _
    rw [if_pos (show guardOk none st = true from rfl), h i List.mem_cons_self]
    show ((compLoop none one (is.map F) st).bind fun q => some ([G i] ++ q.1, q.2)) = _
    rw [ih]
    rfl
theorem comp_map {α : Type} {st : Store} {one : D → Store → Option (List D × Store)} {F G : α → D} {is : List α} (hn : is.length ≤ 1000000) (h : ∀ i ∈ is, one (F i) st = some ([G i], st)) : endC (compLoop none one (is.map F) st) = some (.lst (is.map G), st) := by
  rw [loop_map h]
  exact endC_ok (by rw [List.length_map]; exact Nat.le_trans hn (by decide))
theorem comp_places {st : Store} {one : D → Store → Option (List D × Store)} {r : Rule} {R C : Int} (hn : R * C ≤ 1000000) (h : ∀ i : Int, 0 ≤ i → i < R * C → one (.int i) st = some ([placeD (spotV r R C i)], st)) : endC (compLoop none one (rangeD 0 (R * C)) st) = some (.lst (places r R C), st) := comp_range (f := fun i => placeD (spotV r R C i)) hn h
theorem comp_back {st : Store} {one : D → Store → Option (List D × Store)} {r : Rule} {R C : Int} (hn : R * C ≤ 1000000) (h : ∀ i : Int, 0 ≤ i → i < R * C → one (placeD (spotV r R C i)) st = some ([.int i], st)) : endC (compLoop none one (places r R C) st) = some (.lst (rangeD 0 (R * C)), st) := by
  rw [rangeD_eq]
  exact comp_map (F := fun (i : Nat) => placeD (spotV r R C i)) (G := fun (i : Nat) => .int i) (by rw [List.length_range]; omega) fun i hi => by
    have := List.mem_range.mp hi
    exact h i (by omega) (by omega)
theorem lrange_ok {st : Store} {n : Int} (h : 0 ≤ n) (h2 : n ≤ 1000000) : (if 0 ≤ n ∧ n ≤ 1000000 then mkL false (rangeD 0 n) st else none) = some (.lst (rangeD 0 n), st) := by
  rw [if_pos ⟨h, h2⟩]
  exact mkL_f (by simp [rangeD, sizeLine]; omega)
/-! ### numbers of places -/
section
variable {cst : Str → Option D} {turns : Nat} {tab : Str → Option Def} {k : Nat} {st : Store}
theorem number (ht : tab "_law_number" = some d_law_number) {r : Rule} {R C : Int} {p : Int × Int} (hR : 0 < R ∧ R < 2 ^ 900) (hC : 0 < C ∧ C < 2 ^ 900) (h1 : -(2 ^ 900) < p.1 ∧ p.1 < 2 ^ 900) (h2 : -(2 ^ 900) < p.2 ∧ p.2 < 2 ^ 900) :
    callN cst turns tab (k + 1) "_law_number" [ruleD r, sizeD R C, placeD p] st = some (.int (numV r R C p), st) := by
  have hR1 := lt900 (Int.le_of_lt hR.1) hR.2
  have hC1 := lt900 (Int.le_of_lt hC.1) hC.2
  have p1 := lt901 hR h1
  have p2 := lt901 hC h2
  rw [call_eq ht rfl]
  obtain ⟨s, e, w, m, b⟩ := r
  cases w <;> cases s <;> cases e <;> simp only [d_law_number, RuleE, PlaceE, List.map_cons, List.map_nil, List.length_cons, List.length_nil, Nat.reduceAdd, Nat.reduceSub, Nat.reduceLT, List.replicate, List.cons_append, List.nil_append, Go, Ev1, Ev2, Ev3, Ex1, Ex2, Pl, Val1, set_name, kSet_name, kSet_tup, stTs_name, stTs_nil, setAll_cons, evl_cons, Sx, List.getElem?_cons_zero, List.getElem?_cons_succ, List.set_cons_zero, List.set_cons_succ, Option.map_some, Option.bind_some, decide_eq_true_eq, if_true, if_false, Bool.false_eq_true, asO_some, asO_no, noneX_t, noneX_i, noneX_v, noneX_n, kAug_add, kAug_sub, Isa, MkT, comp_eq, for_eq, lst_eq_nil, BEq.rfl, mult_ok p1.1 hC1, mult_ok p1.2 hC1, mult_ok p2.1 hR1, mult_ok p2.2 hR1, Bool.not_false, Bool.not_true] <;> rfl
/-- an index told in another order -/
def betweenV (o p : Rule) (R C i : Int) : Int := numV p R C (spotV o R C i)
theorem index_between (ht : tab "index_between" = some d_index_between) (t_cell : tab "cell_at" = some d_cell_at) (t_index : tab "index_of" = some d_index_of) {o p : Rule} {R C i : Int} (hR : 0 < R ∧ R ≤ 1000000000000000000000000000000) (hC : 0 < C ∧ C ≤ 1000000000000000000000000000000) (hi : 0 ≤ i) (h : i < R * C) :
    callN cst turns tab (k + 2) "index_between" [ruleD o, ruleD p, sizeD R C, .int i] st = some (.int (betweenV o p R C i), st) := by
  have bR := big_of hR.1 hR.2
  have bC := big_of hC.1 hC.2
  have sr := spot_rng (r := o) (R := R) (C := C) (i := i) hR.1 hC.1 hi h
  have e1 := cell_at (cst := cst) (turns := turns) (k := k) (st := st) (r := o) (i := i) t_cell bR bC
  have e2 := index_of (cst := cst) (turns := turns) (k := k) (st := st) (r := p) (p := spotV o R C i) t_index bR bC (big_in (by omega) (by omega)) (big_in (by omega) (by omega))
  rw [call_eq ht rfl]
  simp only [d_index_between, List.map_cons, List.map_nil, List.length_cons, List.length_nil, Nat.reduceAdd, Nat.reduceSub, Nat.reduceLT, List.replicate, List.cons_append, List.nil_append, Go, Ev1, Ev2, Ev3, Ex1, Ex2, Pl, Val1, set_name, kSet_name, kSet_tup, stTs_name, stTs_nil, setAll_cons, evl_cons, Sx, List.getElem?_cons_zero, List.getElem?_cons_succ, List.set_cons_zero, List.set_cons_succ, Option.map_some, Option.bind_some, decide_eq_true_eq, if_true, if_false, Bool.false_eq_true, asO_some, asO_no, noneX_t, noneX_i, noneX_v, noneX_n, kAug_add, kAug_sub, Isa, MkT, comp_eq, for_eq, lst_eq_nil, BEq.rfl, e1, e2]
  rfl
end
theorem num_rng {r : Rule} {R C : Int} {p : Int × Int} (hR : 0 < R) (hC : 0 < C) (h1 : 0 ≤ p.1 ∧ p.1 < R) (h2 : 0 ≤ p.2 ∧ p.2 < C) : 0 ≤ numV r R C p ∧ numV r R C p < R * C := by
  have key : ∀ {a b A B : Int}, 0 < B → 0 ≤ a ∧ a < A → 0 ≤ b ∧ b < B → 0 ≤ a * B + b ∧ a * B + b < A * B := fun {a b A B} hB ha hb => by
    have q1 : 0 ≤ a * B := Int.mul_nonneg ha.1 (Int.le_of_lt hB)
    have q2 : (a + 1) * B ≤ A * B := Int.mul_le_mul_of_nonneg_right (by omega) (Int.le_of_lt hB)
    rw [Int.add_mul, Int.one_mul] at q2
    omega
  obtain ⟨s, e, w, m, b⟩ := r
  cases w
  · rw [Int.mul_comm]
    cases s <;> cases e <;> simp only [numV, Bool.false_eq_true, if_false, if_true] <;> exact key hR (by omega) (by omega)
  · cases s <;> cases e <;> simp only [numV, Bool.false_eq_true, if_false, if_true] <;> exact key hC (by omega) (by omega)
theorem spot_num {r : Rule} {R C : Int} {p : Int × Int} (hR : 0 < R) (hC : 0 < C) (h1 : 0 ≤ p.1 ∧ p.1 < R) (h2 : 0 ≤ p.2 ∧ p.2 < C) : spotV r R C (numV r R C p) = p := by
  have dm : ∀ {a b B : Int}, 0 < B → 0 ≤ b ∧ b < B → (a * B + b) / B = a ∧ (a * B + b) % B = b := fun {a b B} hB hb => by
    constructor
    · rw [Int.add_comm, Int.add_mul_ediv_right _ _ (Int.ne_of_gt hB), Int.ediv_eq_zero_of_lt hb.1 hb.2, Int.zero_add]
    · rw [Int.add_comm, Int.add_mul_emod_self_right, Int.emod_eq_of_lt hb.1 hb.2]
  obtain ⟨s, e, w, m, b⟩ := r
  obtain ⟨x, y⟩ := p
  simp only at h1 h2
  have f1 : ∀ x : Int, C - 1 - (C - 1 - x) = x := fun x => by omega
  have f2 : ∀ x : Int, R - 1 - (R - 1 - x) = x := fun x => by omega
  cases w <;> cases s <;> cases e <;> simp only [numV, spotV, Bool.false_eq_true, if_false, if_true, Int.fdiv_eq_ediv_of_nonneg _ (Int.le_of_lt hR), Int.fmod_eq_emod_of_nonneg _ (Int.le_of_lt hR), Int.fdiv_eq_ediv_of_nonneg _ (Int.le_of_lt hC), Int.fmod_eq_emod_of_nonneg _ (Int.le_of_lt hC)] <;>
    first
    | rw [(dm (a := y) (b := x) hR (by omega)).1, (dm (a := y) (b := x) hR (by omega)).2]
    | rw [(dm (a := x) (b := y) hC (by omega)).1, (dm (a := x) (b := y) hC (by omega)).2]
    | rw [(dm (a := C - 1 - y) (b := x) hR (by omega)).1, (dm (a := C - 1 - y) (b := x) hR (by omega)).2, f1]
    | rw [(dm (a := y) (b := R - 1 - x) hR (by omega)).1, (dm (a := y) (b := R - 1 - x) hR (by omega)).2, f2]
    | rw [(dm (a := C - 1 - y) (b := R - 1 - x) hR (by omega)).1, (dm (a := C - 1 - y) (b := R - 1 - x) hR (by omega)).2, f1, f2]
    | rw [(dm (a := R - 1 - x) (b := y) hC (by omega)).1, (dm (a := R - 1 - x) (b := y) hC (by omega)).2, f2]
    | rw [(dm (a := x) (b := C - 1 - y) hC (by omega)).1, (dm (a := x) (b := C - 1 - y) hC (by omega)).2, f1]
    | rw [(dm (a := R - 1 - x) (b := C - 1 - y) hC (by omega)).1, (dm (a := R - 1 - x) (b := C - 1 - y) hC (by omega)).2, f1, f2]
end QL

/-! QFix: places that have the same index in two orders. -/
namespace QL
open PySem PySem.Spec L2 Q
/-! ### the greatest common divisor, with its two factors -/
def combV : Nat → Int → Int → Option (Int × Int × Int)
  | 0, a, b => if b = 0 then some (if a < 0 then -a else a, if 0 ≤ a then 1 else -1, 0) else none
  | n + 1, a, b => if b = 0 then some (if a < 0 then -a else a, if 0 ≤ a then 1 else -1, 0) else (combV n b (a.fmod b)).map fun t => (t.1, t.2.2, t.2.1 - a.fdiv b * t.2.2)
theorem fdm (a b : Int) : b * a.fdiv b + a.fmod b = a := by
  have := Int.mul_fdiv_add_fmod a b
  omega
theorem comb_good : ∀ {n : Nat} {a b d l r : Int}, combV n a b = some (d, l, r) → d = a * l + b * r ∧ 0 ≤ d ∧ d ∣ a ∧ d ∣ b := by
  have base : ∀ {a d l r : Int}, (some (if a < 0 then -a else a, if 0 ≤ a then (1 : Int) else -1, (0 : Int)) = some (d, l, r)) → d = a * l + 0 * r ∧ 0 ≤ d ∧ d ∣ a ∧ d ∣ 0 := by
    intro a d l r h
    cases h
    by_cases ha : a < 0
    · have hb : ¬ 0 ≤ a := by omega
      rw [if_pos ha, if_neg hb]
      exact ⟨by omega, by omega, (Int.neg_dvd).mpr (Int.dvd_refl a), Int.dvd_zero _⟩
    · have hb : 0 ≤ a := by omega
      rw [if_neg ha, if_pos hb]
      exact ⟨by omega, hb, Int.dvd_refl a, Int.dvd_zero _⟩
  intro n
  induction n with
  | zero =>
    intro a b d l r h
    unfold combV at h
    split at h
    · rename_i hb; subst hb; exact base h
    · cases h
  | succ n ih =>
    intro a b d l r h
    unfold combV at h
    split at h
    · rename_i hb; subst hb; exact base h
    · obtain ⟨⟨c, f, s⟩, h1, h2⟩ := Option.map_eq_some_iff.mp h
      cases h2
      obtain ⟨g1, g2, g3, g4⟩ := ih h1
      have e := fdm a b
      refine ⟨?_, g2, ?_, g3⟩
      · simp only
        rw [g1]
        have e2 : a * s = (b * a.fdiv b + a.fmod b) * s := by rw [e]
        rw [e2, Int.add_mul, Int.mul_sub, Int.mul_assoc]
        omega
      · rw [← e]
        exact Int.dvd_add (Int.dvd_mul_of_dvd_left g3) g4
/-- of one sign, the second one nearer to nothing -/
def SS (x y : Int) : Prop := (0 ≤ y ∧ y < x) ∨ (x < y ∧ y ≤ 0)
theorem fmod_neg_rng {a b : Int} (h : b < 0) : b < a.fmod b ∧ a.fmod b ≤ 0 := by
  have e : a.fmod b = -((-a).fmod (-b)) := by rw [Int.neg_fmod_neg]; omega
  have q := fmod_rng (a := -a) (b := -b) (by omega)
  omega
theorem ss_next {a b : Int} (h : b ≠ 0) : SS b (a.fmod b) := by
  by_cases hb : 0 < b
  · exact .inl (fmod_rng hb)
  · exact .inr (fmod_neg_rng (by omega))
theorem ss_q {x y : Int} (h : SS x y) (hy : y ≠ 0) : 1 ≤ (x.fdiv y).natAbs ∧ (x.fdiv y).natAbs * y.natAbs + (x.fmod y).natAbs = x.natAbs := by
  have e := fdm x y
  have key : ∀ {x y q m : Int}, y * q + m = x → 0 < y → 0 ≤ m → m < y → y < x → 1 ≤ q.natAbs ∧ q.natAbs * y.natAbs + m.natAbs = x.natAbs := by
    intro x y q m e h1 h2 h3 h4
    have hq : 0 < q := by
      by_cases hq : 0 < q
      · exact hq
      · have : y * q ≤ 0 := Int.mul_nonpos_of_nonneg_of_nonpos (by omega) (by omega)
        omega
    refine ⟨by omega, ?_⟩
    have p : 0 ≤ y * q := Int.mul_nonneg (by omega) (by omega)
    have e2 : (q.natAbs * y.natAbs : Nat) = (y * q).natAbs := by rw [Int.natAbs_mul, Nat.mul_comm]
    rw [e2]
    omega
  rcases h with ⟨h1, h2⟩ | ⟨h1, h2⟩
  · have hp : 0 < y := by omega
    have m := fmod_rng (a := x) hp
    exact key e hp m.1 m.2 h2
  · have hp : y < 0 := by omega
    have m := fmod_neg_rng (a := x) hp
    have := key (x := -x) (y := -y) (q := x.fdiv y) (m := -(x.fmod y)) (by rw [Int.neg_mul]; omega) (by omega) (by omega) (by omega) (by omega)
    simpa using this
theorem comb_bound : ∀ {n : Nat} {x y d l r : Int}, SS x y → combV n x y = some (d, l, r) → l.natAbs + r.natAbs ≤ 2 ^ n * x.natAbs := by
  have base : ∀ {n : Nat} {x d l r : Int}, SS x 0 → (some (if x < 0 then -x else x, if 0 ≤ x then (1 : Int) else -1, (0 : Int)) = some (d, l, r)) → l.natAbs + r.natAbs ≤ 2 ^ n * x.natAbs := by
    intro n x d l r hs h
    cases h
    have hx : 1 ≤ x.natAbs := by rcases hs with h | h <;> omega
    have h2 : 1 ≤ 2 ^ n := Nat.one_le_two_pow
    have := Nat.mul_le_mul h2 hx
    split <;> simp <;> omega
  intro n
  induction n with
  | zero =>
    intro x y d l r hs h
    unfold combV at h
    split at h
    · rename_i hb; subst hb; exact base hs h
    · cases h
  | succ n ih =>
    intro x y d l r hs h
    unfold combV at h
    split at h
    · rename_i hb; subst hb; exact base hs h
    · rename_i hy
      obtain ⟨⟨c, f, s⟩, h1, h2⟩ := Option.map_eq_some_iff.mp h
      cases h2
      have b := ih (ss_next hy) h1
      obtain ⟨q1, q2⟩ := ss_q hs hy
      simp only
      have t1 : (f - x.fdiv y * s).natAbs ≤ f.natAbs + (x.fdiv y).natAbs * s.natAbs := by
        rw [← Int.natAbs_mul]
        exact Int.natAbs_sub_le _ _
      generalize (x.fdiv y).natAbs = Q at *
      have t2 : s.natAbs + (f.natAbs + Q * s.natAbs) ≤ (Q + 1) * (f.natAbs + s.natAbs) := by
        rw [Nat.add_mul, Nat.mul_add]
        omega
      have t3 : (Q + 1) * (f.natAbs + s.natAbs) ≤ (Q + Q) * (2 ^ n * y.natAbs) := Nat.mul_le_mul (by omega) b
      have t4 : (Q + Q) * (2 ^ n * y.natAbs) = 2 ^ (n + 1) * (Q * y.natAbs) := by
        rw [Nat.pow_succ, ← Nat.two_mul, Nat.mul_comm (2 ^ n) 2, Nat.mul_assoc, Nat.mul_assoc, Nat.mul_left_comm Q]
      have t5 : 2 ^ (n + 1) * (Q * y.natAbs) ≤ 2 ^ (n + 1) * x.natAbs := Nat.mul_le_mul_left _ (by omega)
      omega
theorem comb_more : ∀ {n : Nat} {a b : Int} {t : Int × Int × Int}, combV n a b = some t → combV (n + 1) a b = some t := by
  intro n
  induction n with
  | zero =>
    intro a b t h
    unfold combV at h ⊢
    split at h
    · rename_i hb; rw [if_pos hb]; exact h
    · cases h
  | succ n ih =>
    intro a b t h
    rw [combV] at h ⊢
    split at h
    · rename_i hb; rw [if_pos hb]; exact h
    · rename_i hb
      rw [if_neg hb]
      obtain ⟨u, h1, h2⟩ := Option.map_eq_some_iff.mp h
      rw [ih h1]
      exact congrArg some h2
theorem comb_ends : ∀ {m : Nat} {x y : Int}, SS x y → y.natAbs < 2 ^ m → ∃ t, combV (2 * m) x y = some t := by
  intro m
  induction m with
  | zero =>
    intro x y hs h
    have : y = 0 := by omega
    subst this
    exact ⟨_, by unfold combV; rw [if_pos rfl]⟩
  | succ m ih =>
    intro x y hs h
    show ∃ t, combV (2 * m + 2) x y = some t
    by_cases hy : y = 0
    · exact ⟨_, by unfold combV; rw [if_pos hy]⟩
    · have s1 := ss_next (a := x) hy
      by_cases h1 : x.fmod y = 0
      · refine ⟨_, by unfold combV; rw [if_neg hy]; unfold combV; rw [if_pos h1]; rfl⟩
      · have s2 := ss_next (a := y) h1
        obtain ⟨q1, q2⟩ := ss_q s1 h1
        have : (y.fmod (x.fmod y)).natAbs < 2 ^ m := by
          have q3 := Nat.mul_le_mul_right (x.fmod y).natAbs q1
          rw [Nat.pow_succ] at h
          have l2 : (y.fmod (x.fmod y)).natAbs < (x.fmod y).natAbs := by rcases s2 with h | h <;> omega
          omega
        obtain ⟨t, ht⟩ := ih s2 this
        exact ⟨_, by rw [combV, if_neg hy, combV, if_neg h1, ht]; rfl⟩
theorem comb_all {a b : Int} {m : Nat} (h : b.natAbs < 2 ^ m) : ∃ t, combV (2 * m + 1) a b = some t := by
  by_cases hb : b = 0
  · exact ⟨_, by unfold combV; rw [if_pos hb]⟩
  · have s1 := ss_next (a := a) hb
    have l : (a.fmod b).natAbs < 2 ^ m := by rcases s1 with h | h <;> omega
    obtain ⟨t, ht⟩ := comb_ends s1 l
    exact ⟨_, by rw [combV, if_neg hb, ht]; rfl⟩
/-! ### lines of places -/
/-- the places that a span allows: begin + step * t within 0 .. many -/
def spanV (begin step many : Int) : Int × Int :=
  if step = 0 then (if 0 ≤ begin ∧ begin < many then (-10000000000000000000000000000000000000000, 10000000000000000000000000000000000000000) else (1, 0))
  else if 0 < step then (-(begin.fdiv step), (many - 1 - begin).fdiv step) else (-((many - 1 - begin).fdiv (-step)), begin.fdiv (-step))
theorem le_fdiv {a b t : Int} (h : 0 < b) : t ≤ a.fdiv b ↔ t * b ≤ a := by
  rw [Int.fdiv_eq_ediv_of_nonneg _ (Int.le_of_lt h)]
  exact Int.le_ediv_iff_mul_le h
theorem span_iff {begin step many t : Int} (ht : step = 0 → -10000000000000000000000000000000000000000 ≤ t ∧ t ≤ 10000000000000000000000000000000000000000) : ((spanV begin step many).1 ≤ t ∧ t ≤ (spanV begin step many).2) ↔ (0 ≤ begin + step * t ∧ begin + step * t < many) := by
  unfold spanV
  by_cases h0 : step = 0
  · subst h0
    have := ht rfl
    rw [if_pos rfl, Int.zero_mul, Int.add_zero]
    split
    · rename_i h; exact ⟨fun _ => h, fun _ => this⟩
    · rename_i h; exact ⟨fun z => by simp only at z; omega, fun z => absurd z h⟩
  · rw [if_neg h0]
    by_cases hp : 0 < step
    · rw [if_pos hp]
      simp only
      have e1 : -(begin.fdiv step) ≤ t ↔ -t ≤ begin.fdiv step := by omega
      rw [e1, le_fdiv hp, le_fdiv hp, Int.neg_mul, Int.mul_comm t step]
      omega
    · rw [if_neg hp]
      simp only
      have hn : 0 < -step := by omega
      have e1 : -((many - 1 - begin).fdiv (-step)) ≤ t ↔ -t ≤ (many - 1 - begin).fdiv (-step) := by omega
      rw [e1, le_fdiv hn, le_fdiv hn, Int.neg_mul_neg, Int.mul_neg, Int.mul_comm t step]
      omega
theorem span_fwd {begin step many t : Int} (h : (spanV begin step many).1 ≤ t ∧ t ≤ (spanV begin step many).2) : 0 ≤ begin + step * t ∧ begin + step * t < many := by
  by_cases h0 : step = 0
  · subst h0
    unfold spanV at h
    rw [if_pos rfl] at h
    rw [Int.zero_mul, Int.add_zero]
    split at h
    · rename_i q; exact q
    · simp only at h; omega
  · exact (span_iff fun e => absurd e h0).mp h
/-- all whole solutions of A x + B y = D, from one of them -/
theorem lines {A B D d l r x y : Int} (hd : d = A * l + B * r) (hp : 0 < d) (hA : d ∣ A) (hB : d ∣ B) (hD : d ∣ D) :
    A * x + B * y = D ↔ ∃ t, x = l * (D / d) + B / d * t ∧ y = r * (D / d) + -(A / d) * t := by
  obtain ⟨a, rfl⟩ := hA
  obtain ⟨b, rfl⟩ := hB
  obtain ⟨c, rfl⟩ := hD
  have hd0 : d ≠ 0 := by omega
  rw [Int.mul_ediv_cancel_left _ hd0, Int.mul_ediv_cancel_left _ hd0, Int.mul_ediv_cancel_left _ hd0]
  have one : a * l + b * r = 1 := by
    have e : d * (a * l + b * r) = d * 1 := by
      rw [Int.mul_add, ← Int.mul_assoc, ← Int.mul_assoc, Int.mul_one]; exact hd.symm
    exact Int.eq_of_mul_eq_mul_left hd0 e
  have e0 : (d * a * x + d * b * y = d * c) ↔ a * x + b * y = c := by
    constructor
    · intro h
      refine Int.eq_of_mul_eq_mul_left hd0 ?_
      rw [Int.mul_add, ← Int.mul_assoc, ← Int.mul_assoc]; exact h
    · intro h
      rw [← h, Int.mul_add, ← Int.mul_assoc, ← Int.mul_assoc]
  rw [e0]
  constructor
  · intro h
    refine ⟨r * x - l * y, ?_, ?_⟩
    · rw [← h]
      have : x = (a * l + b * r) * x := by rw [one, Int.one_mul]
      conv => lhs; rw [this]
      simp only [Int.add_mul, Int.mul_add, Int.mul_sub, Int.mul_assoc, Int.mul_comm, Int.mul_left_comm]
      omega
    · rw [← h]
      have : y = (a * l + b * r) * y := by rw [one, Int.one_mul]
      conv => lhs; rw [this]
      simp only [Int.neg_mul]
      rw [Int.mul_sub, Int.add_mul, Int.mul_add]
      simp only [Int.mul_assoc, Int.mul_comm, Int.mul_left_comm]
      omega
  · rintro ⟨t, rfl, rfl⟩
    have : c = (a * l + b * r) * c := by rw [one, Int.one_mul]
    conv => rhs; rw [this]
    simp only [Int.add_mul, Int.mul_add, Int.mul_neg, Int.neg_mul, Int.mul_assoc, Int.mul_comm, Int.mul_left_comm]
    omega
/-! ### the places with the same index in both orders -/
theorem same_len {α : Type} [BEq α] [LawfulBEq α] {l m : List α} (h1 : l.Nodup) (h2 : m.Nodup) (h : ∀ x, x ∈ l ↔ x ∈ m) : l.length = m.length := by
  refine List.Perm.length_eq (List.perm_iff_count.mpr fun a => ?_)
  rw [h1.count, h2.count]
  by_cases ha : a ∈ l
  · rw [if_pos ha, if_pos ((h a).mp ha)]
  · rw [if_neg ha, if_neg fun z => ha ((h a).mpr z)]
def pA (r : Rule) (R C : Int) : Int := if 1 < R then numV r R C (1, 0) - numV r R C (0, 0) else 0
def pB (r : Rule) (R C : Int) : Int := if 1 < C then numV r R C (0, 1) - numV r R C (0, 0) else 0
def pC (r : Rule) (R C : Int) : Int := numV r R C (0, 0)
def onD (R C : Int) (q : Int × Int) : Prop := (0 ≤ q.1 ∧ q.1 < R) ∧ (0 ≤ q.2 ∧ q.2 < C)
theorem affineV (r : Rule) (R C : Int) : ∃ a b c : Int, ∀ x y : Int, numV r R C (x, y) = a * x + b * y + c := by
  obtain ⟨s, e, w, m, b⟩ := r
  cases w <;> cases s <;> cases e <;> simp only [numV, Bool.false_eq_true, if_false, if_true]
  · exact ⟨1, R, 0, fun x y => by simp only [Int.mul_comm y R]; omega⟩
  · exact ⟨1, -R, (C - 1) * R, fun x y => by simp only [Int.sub_mul, Int.neg_mul, Int.mul_comm y R]; omega⟩
  · exact ⟨-1, R, R - 1, fun x y => by simp only [Int.mul_comm y R]; omega⟩
  · exact ⟨-1, -R, (C - 1) * R + (R - 1), fun x y => by simp only [Int.sub_mul, Int.neg_mul, Int.mul_comm y R]; omega⟩
  · exact ⟨C, 1, 0, fun x y => by simp only [Int.mul_comm x C]; omega⟩
  · exact ⟨C, -1, C - 1, fun x y => by simp only [Int.mul_comm x C]; omega⟩
  · exact ⟨-C, 1, (R - 1) * C, fun x y => by simp only [Int.sub_mul, Int.neg_mul, Int.mul_comm x C]; omega⟩
  · exact ⟨-C, -1, (R - 1) * C + (C - 1), fun x y => by simp only [Int.sub_mul, Int.neg_mul, Int.mul_comm x C]; omega⟩
theorem parts_num {r : Rule} {R C x y : Int} (h : onD R C (x, y)) : numV r R C (x, y) = pA r R C * x + pB r R C * y + pC r R C := by
  obtain ⟨a, b, c, e⟩ := affineV r R C
  obtain ⟨⟨h1, h2⟩, h3, h4⟩ := h
  simp only at h1 h2 h3 h4
  unfold pA pB pC
  rw [e x y, e 1 0, e 0 0, e 0 1]
  simp only [Int.mul_zero, Int.mul_one, Int.zero_add, Int.add_zero]
  have ex : (if 1 < R then a + c - c else 0) * x = a * x := by
    split
    · rw [Int.add_sub_cancel]
    · have : x = 0 := by omega
      rw [this, Int.mul_zero, Int.mul_zero]
  have ey : (if 1 < C then b + c - c else 0) * y = b * y := by
    split
    · rw [Int.add_sub_cancel]
    · have : y = 0 := by omega
      rw [this, Int.mul_zero, Int.mul_zero]
  rw [ex, ey]
/-- the line of such places: from where, by which steps, which steps -/
def lineV (A B D R C : Int) : Option (Int × Int × Int × Int × Int × Int) :=
  (combV 205 A B).bind fun t => if D.fmod t.1 = 0 then
    (let x0 := t.2.1 * D.fdiv t.1
     let y0 := t.2.2 * D.fdiv t.1
     let sx := B.fdiv t.1
     let sy := -(A.fdiv t.1)
     let lo := max (spanV x0 sx R).1 (spanV y0 sy C).1
     let hi := min (spanV x0 sx R).2 (spanV y0 sy C).2
     if hi < lo then none else some (x0, y0, sx, sy, lo, hi)) else none
theorem dvd_abs_one {a b : Int} (h : a * b = 1) : a = 1 ∨ a = -1 := by
  have q : a.natAbs * b.natAbs = 1 := by rw [← Int.natAbs_mul, h]; rfl
  have := Nat.eq_one_of_mul_eq_one_right q
  omega
theorem line_iff {A B D R C : Int} (hB : B.natAbs < 2 ^ 102) (h0 : A ≠ 0 ∨ B ≠ 0) (hR : R ≤ 1000000000000000) (hC : C ≤ 1000000000000000) (x y : Int) :
    (onD R C (x, y) ∧ A * x + B * y = D) ↔ ∃ x0 y0 sx sy lo hi, lineV A B D R C = some (x0, y0, sx, sy, lo, hi) ∧ ∃ t, lo ≤ t ∧ t ≤ hi ∧ x = x0 + sx * t ∧ y = y0 + sy * t := by
  obtain ⟨⟨d, l, r⟩, ht⟩ := comb_all (a := A) hB
  have ht : combV 205 A B = some (d, l, r) := ht
  obtain ⟨g1, g2, g3, g4⟩ := comb_good ht
  have hp : 0 < d := by
    by_cases hd : d = 0
    · subst hd
      rw [Int.zero_dvd] at g3 g4
      rcases h0 with h | h
      · exact absurd g3 h
      · exact absurd g4 h
    · omega
  unfold lineV
  rw [ht]
  simp only [Option.bind_some]
  rw [Int.fmod_eq_emod_of_nonneg _ g2, Int.fdiv_eq_ediv_of_nonneg _ g2, Int.fdiv_eq_ediv_of_nonneg _ g2, Int.fdiv_eq_ediv_of_nonneg _ g2]
  by_cases hD : D % d = 0
  · rw [if_pos hD]
    have hD' : d ∣ D := Int.dvd_of_emod_eq_zero hD
    have L := lines (x := x) (y := y) g1 hp g3 g4 hD'
    -- where one step is nothing
    have zx : B / d = 0 → r * (D / d) = 0 ∧ (-(A / d) = 1 ∨ -(A / d) = -1) := fun e => by
      obtain ⟨b, hb⟩ := g4
      have hb0 : B = 0 := by
        rw [hb, Int.mul_ediv_cancel_left _ (by omega)] at e
        rw [hb, e, Int.mul_zero]
      subst hb0
      have hr : r = 0 := by
        unfold combV at ht
        rw [if_pos rfl] at ht
        cases ht
        rfl
      subst hr
      refine ⟨Int.zero_mul _, ?_⟩
      obtain ⟨a, ha⟩ := g3
      have e1 : d * (a * l) = d * 1 := by
        rw [← Int.mul_assoc, ← ha, Int.mul_one]
        rw [Int.zero_mul, Int.add_zero] at g1
        exact g1.symm
      have e2 := dvd_abs_one (Int.eq_of_mul_eq_mul_left (by omega) e1)
      rw [ha, Int.mul_ediv_cancel_left _ (by omega)]
      omega
    have zy : -(A / d) = 0 → l * (D / d) = 0 ∧ (B / d = 1 ∨ B / d = -1) := fun e => by
      obtain ⟨a, ha⟩ := g3
      have ha0 : A = 0 := by
        have e' : A / d = 0 := by omega
        rw [ha, Int.mul_ediv_cancel_left _ (by omega)] at e'
        rw [ha, e', Int.mul_zero]
      subst ha0
      have hb0 : B ≠ 0 := by rcases h0 with h | h; exact absurd rfl h; exact h
      have hl : l = 0 := by
        rw [combV, if_neg hb0, Int.zero_fmod, combV, if_pos rfl] at ht
        cases ht
        rfl
      subst hl
      refine ⟨Int.zero_mul _, ?_⟩
      obtain ⟨b, hb⟩ := g4
      have e1 : d * (b * r) = d * 1 := by
        rw [← Int.mul_assoc, ← hb, Int.mul_one]
        rw [Int.zero_mul, Int.zero_add] at g1
        exact g1.symm
      have e2 := dvd_abs_one (Int.eq_of_mul_eq_mul_left (by omega) e1)
      rw [hb, Int.mul_ediv_cancel_left _ (by omega)]
      exact e2
    generalize hx0 : l * (D / d) = x0 at *
    generalize hy0 : r * (D / d) = y0 at *
    generalize hsx : B / d = sx at *
    generalize hsy : -(A / d) = sy at *
    have both : ∀ t : Int, (max (spanV x0 sx R).1 (spanV y0 sy C).1 ≤ t ∧ t ≤ min (spanV x0 sx R).2 (spanV y0 sy C).2) ↔ onD R C (x0 + sx * t, y0 + sy * t) := fun t => by
      constructor
      · intro h
        have h1 := span_fwd (begin := x0) (step := sx) (many := R) (t := t) (by omega)
        have h2 := span_fwd (begin := y0) (step := sy) (many := C) (t := t) (by omega)
        exact ⟨h1, h2⟩
      · rintro ⟨h1, h2⟩
        simp only at h1 h2
        have b1 : sx = 0 → -10000000000000000000000000000000000000000 ≤ t ∧ t ≤ 10000000000000000000000000000000000000000 := fun e => by
          obtain ⟨e1, e2⟩ := zx e
          rw [e1] at h2
          rcases e2 with e2 | e2 <;> rw [e2] at h2 <;> omega
        have b2 : sy = 0 → -10000000000000000000000000000000000000000 ≤ t ∧ t ≤ 10000000000000000000000000000000000000000 := fun e => by
          obtain ⟨e1, e2⟩ := zy e
          rw [e1] at h1
          rcases e2 with e2 | e2 <;> rw [e2] at h1 <;> omega
        have q1 := (span_iff b1).mpr h1
        have q2 := (span_iff b2).mpr h2
        omega
    constructor
    · rintro ⟨hd, he⟩
      obtain ⟨t, e1, e2⟩ := L.mp he
      have q := (both t).mpr (by rw [← e1, ← e2]; exact hd)
      rw [if_neg (by omega)]
      exact ⟨_, _, _, _, _, _, rfl, t, q.1, q.2, e1, e2⟩
    · rintro ⟨a0, b0, sa, sb, lo, hi, h, t, h1, h2, e1, e2⟩
      split at h
      · cases h
      · cases h
        refine ⟨?_, L.mpr ⟨t, e1, e2⟩⟩
        rw [e1, e2]
        exact (both t).mp ⟨h1, h2⟩
  · rw [if_neg hD]
    constructor
    · rintro ⟨_, h⟩
      exfalso
      apply hD
      refine Int.emod_eq_zero_of_dvd ?_
      rw [← h]
      exact Int.dvd_add (Int.dvd_mul_of_dvd_left g3) (Int.dvd_mul_of_dvd_left g4)
    · rintro ⟨_, _, _, _, _, _, h, _⟩
      cases h
theorem line_step {A B D R C x0 y0 sx sy lo hi : Int} (h0 : A ≠ 0 ∨ B ≠ 0) (h : lineV A B D R C = some (x0, y0, sx, sy, lo, hi)) : lo ≤ hi ∧ (sx ≠ 0 ∨ sy ≠ 0) := by
  unfold lineV at h
  obtain ⟨⟨d, l, r⟩, ht, h⟩ := Option.bind_eq_some_iff.mp h
  obtain ⟨g1, g2, g3, g4⟩ := comb_good ht
  simp only at h
  split at h
  · split at h
    · cases h
    · rename_i hlt
      cases h
      refine ⟨by omega, ?_⟩
      have hd : d ≠ 0 := fun e => by
        subst e
        rw [Int.zero_dvd] at g3 g4
        rcases h0 with h | h
        · exact h g3
        · exact h g4
      rw [Int.fdiv_eq_ediv_of_nonneg _ g2, Int.fdiv_eq_ediv_of_nonneg _ g2]
      obtain ⟨a, rfl⟩ := g3
      obtain ⟨b, rfl⟩ := g4
      rw [Int.mul_ediv_cancel_left _ hd, Int.mul_ediv_cancel_left _ hd]
      rcases h0 with h | h
      · exact .inr fun e => h (by rw [show a = 0 by omega, Int.mul_zero])
      · exact .inl fun e => h (by rw [e, Int.mul_zero])
  · cases h
def sameI (o p : Rule) (R C : Int) : List Nat := (List.range (R * C).toNat).filter fun (i : Nat) => decide (numV p R C (spotV o R C i) = i)
theorem sameI_mem {o p : Rule} {R C : Int} {i : Nat} (hR : 0 < R) (hC : 0 < C) : i ∈ sameI o p R C ↔ ∃ q, onD R C q ∧ numV o R C q = numV p R C q ∧ (i : Int) = numV o R C q := by
  unfold sameI
  rw [List.mem_filter, List.mem_range, decide_eq_true_eq]
  constructor
  · rintro ⟨h1, h2⟩
    have hi : (i : Int) < R * C := by omega
    have sr := spot_rng (r := o) hR hC (by omega : (0 : Int) ≤ i) hi
    have e := num_spot (r := o) hR hC (by omega : (0 : Int) ≤ i) hi
    exact ⟨spotV o R C i, sr, by rw [e, h2], e.symm⟩
  · rintro ⟨q, h1, h2, h3⟩
    have nr := num_rng (r := o) hR hC h1.1 h1.2
    refine ⟨by omega, ?_⟩
    rw [h3, spot_num hR hC h1.1 h1.2, h2]
def sameP (o p : Rule) (R C : Int) : Bool := pA o R C == pA p R C && pB o R C == pB p R C && pC o R C == pC p R C
def sameAB (o p : Rule) (R C : Int) : Bool := pA o R C == pA p R C && pB o R C == pB p R C
def sameLine (o p : Rule) (R C : Int) : Option (Int × Int × Int × Int × Int × Int) := lineV (pA o R C - pA p R C) (pB o R C - pB p R C) (pC p R C - pC o R C) R C
def countV (o p : Rule) (R C : Int) : Int := if sameP o p R C = true then R * C else if sameAB o p R C = true then 0 else match sameLine o p R C with
  | none => 0
  | some (_, _, _, _, lo, hi) => hi - lo + 1
def firstV (o p : Rule) (R C : Int) : Option Int := if sameP o p R C = true then some 0 else if sameAB o p R C = true then none else match sameLine o p R C with
  | none => none
  | some (x0, y0, sx, sy, lo, hi) => some (min (numV o R C (x0 + sx * lo, y0 + sy * lo)) (numV o R C (x0 + sx * hi, y0 + sy * hi)))
theorem pB_small {r : Rule} {R C : Int} (hR : 1 ≤ R ∧ R ≤ 1000000000000000) (hC : 1 ≤ C ∧ C ≤ 1000000000000000) : -1000000000000000000000000000000 ≤ pB r R C ∧ pB r R C ≤ 1000000000000000000000000000000 := by
  have hm := mul_le (R := R) (C := C) (a := 1000000000000000) (b := 1000000000000000) ⟨by omega, hR.2⟩ ⟨by omega, hC.2⟩
  unfold pB
  split
  · have a := num_rng (r := r) (R := R) (C := C) (p := (0, 1)) (by omega) (by omega) (by simp; omega) (by simp; omega)
    have b := num_rng (r := r) (R := R) (C := C) (p := (0, 0)) (by omega) (by omega) (by simp; omega) (by simp; omega)
    omega
  · omega
theorem same_main {o p : Rule} {R C : Int} (hR : 1 ≤ R ∧ R ≤ 1000000000000000) (hC : 1 ≤ C ∧ C ≤ 1000000000000000) : countV o p R C = (sameI o p R C).length ∧ firstV o p R C = ((sameI o p R C).head?).map Int.ofNat := by
  have hm := mul_le (R := R) (C := C) (a := 1000000000000000) (b := 1000000000000000) ⟨by omega, hR.2⟩ ⟨by omega, hC.2⟩
  have num : ∀ (r : Rule) (q : Int × Int), onD R C q → numV r R C q = pA r R C * q.1 + pB r R C * q.2 + pC r R C := fun r q h => parts_num (x := q.1) (y := q.2) h
  unfold countV firstV
  by_cases h1 : sameP o p R C = true
  · rw [if_pos h1, if_pos h1]
    unfold sameP at h1
    simp only [Bool.and_eq_true, beq_iff_eq] at h1
    obtain ⟨⟨a1, a2⟩, a3⟩ := h1
    have all : sameI o p R C = List.range (R * C).toNat := by
      unfold sameI
      refine List.filter_eq_self.mpr fun i hi => ?_
      have hi2 := List.mem_range.mp hi
      have hi3 : (i : Int) < R * C := by omega
      have sr := spot_rng (r := o) (by omega) (by omega) (by omega : (0 : Int) ≤ i) hi3
      have e := num_spot (r := o) (by omega) (by omega) (by omega : (0 : Int) ≤ i) hi3
      rw [decide_eq_true_eq, num p _ sr, ← a1, ← a2, ← a3, ← num o _ sr, e]
    rw [all, List.length_range]
    refine ⟨by omega, ?_⟩
    obtain ⟨k, hk⟩ : ∃ k, (R * C).toNat = k + 1 := ⟨(R * C).toNat - 1, by omega⟩
    rw [hk, List.range_succ_eq_map]
    rfl
  · rw [if_neg h1, if_neg h1]
    by_cases h2 : sameAB o p R C = true
    · rw [if_pos h2, if_pos h2]
      have none : sameI o p R C = [] := by
        refine List.eq_nil_iff_forall_not_mem.mpr fun i hi => ?_
        obtain ⟨q, b1, b2, _⟩ := (sameI_mem (by omega) (by omega)).mp hi
        rw [num o q b1, num p q b1] at b2
        unfold sameAB at h2
        simp only [Bool.and_eq_true, beq_iff_eq] at h2
        rw [h2.1, h2.2] at b2
        apply h1
        unfold sameP
        simp only [Bool.and_eq_true, beq_iff_eq]
        exact ⟨⟨h2.1, h2.2⟩, by omega⟩
      rw [none]
      exact ⟨rfl, rfl⟩
    · rw [if_neg h2, if_neg h2]
      have ab : pA o R C - pA p R C ≠ 0 ∨ pB o R C - pB p R C ≠ 0 := by
        by_cases e1 : pA o R C = pA p R C
        · refine .inr fun e2 => h2 ?_
          unfold sameAB
          simp only [Bool.and_eq_true, beq_iff_eq]
          exact ⟨e1, by omega⟩
        · exact .inl (by omega)
      have sB : (pB o R C - pB p R C).natAbs < 2 ^ 102 := by
        have b1 := pB_small (r := o) hR hC
        have b2 := pB_small (r := p) hR hC
        have : (2 : Int) * 1000000000000000000000000000000 < ((2 ^ 102 : Nat) : Int) := by decide +kernel
        omega
      have eqs : ∀ q : Int × Int, onD R C q → (numV o R C q = numV p R C q ↔ (pA o R C - pA p R C) * q.1 + (pB o R C - pB p R C) * q.2 = pC p R C - pC o R C) := fun q hq => by
        rw [num o q hq, num p q hq, Int.sub_mul, Int.sub_mul]
        omega
      have L := line_iff (D := pC p R C - pC o R C) sB ab hR.2 hC.2
      have mem : ∀ i : Nat, i ∈ sameI o p R C ↔ ∃ x0 y0 sx sy lo hi, sameLine o p R C = some (x0, y0, sx, sy, lo, hi) ∧ ∃ t, lo ≤ t ∧ t ≤ hi ∧ onD R C (x0 + sx * t, y0 + sy * t) ∧ (i : Int) = numV o R C (x0 + sx * t, y0 + sy * t) := fun i => by
        rw [sameI_mem (by omega) (by omega)]
        constructor
        · rintro ⟨⟨x, y⟩, b1, b2, b3⟩
          obtain ⟨x0, y0, sx, sy, lo, hi, c1, t, c2, c3, c4, c5⟩ := (L x y).mp ⟨b1, (eqs _ b1).mp b2⟩
          exact ⟨x0, y0, sx, sy, lo, hi, c1, t, c2, c3, by rw [← c4, ← c5]; exact b1, by rw [← c4, ← c5]; exact b3⟩
        · rintro ⟨x0, y0, sx, sy, lo, hi, c1, t, c2, c3, c4, c5⟩
          have q := (L (x0 + sx * t) (y0 + sy * t)).mpr ⟨x0, y0, sx, sy, lo, hi, c1, t, c2, c3, rfl, rfl⟩
          exact ⟨_, c4, (eqs _ c4).mpr q.2, c5⟩
      cases hl : sameLine o p R C with
      | none =>
        have none : sameI o p R C = [] := by
          refine List.eq_nil_iff_forall_not_mem.mpr fun i hi => ?_
          obtain ⟨_, _, _, _, _, _, c, _⟩ := (mem i).mp hi
          rw [hl] at c; cases c
        rw [none]
        exact ⟨rfl, rfl⟩
      | some v =>
        obtain ⟨x0, y0, sx, sy, lo, hi⟩ := v
        obtain ⟨l1, l2⟩ := line_step ab hl
        have on : ∀ t, lo ≤ t → t ≤ hi → onD R C (x0 + sx * t, y0 + sy * t) := fun t h1 h2 => ((L _ _).mpr ⟨x0, y0, sx, sy, lo, hi, hl, t, h1, h2, rfl, rfl⟩).1
        have rng : ∀ t, lo ≤ t → t ≤ hi → 0 ≤ numV o R C (x0 + sx * t, y0 + sy * t) := fun t h1 h2 => (num_rng (by omega) (by omega) (on t h1 h2).1 (on t h1 h2).2).1
        have mem2 : ∀ i : Nat, i ∈ sameI o p R C ↔ ∃ t, lo ≤ t ∧ t ≤ hi ∧ (i : Int) = numV o R C (x0 + sx * t, y0 + sy * t) := fun i => by
          rw [mem i]
          constructor
          · rintro ⟨_, _, _, _, _, _, c, t, c2, c3, c4, c5⟩
            rw [hl] at c; cases c
            exact ⟨t, c2, c3, c5⟩
          · rintro ⟨t, c2, c3, c5⟩
            exact ⟨_, _, _, _, _, _, hl, t, c2, c3, on t c2 c3, c5⟩
        have inj : ∀ t t', lo ≤ t → t ≤ hi → lo ≤ t' → t' ≤ hi → numV o R C (x0 + sx * t, y0 + sy * t) = numV o R C (x0 + sx * t', y0 + sy * t') → t = t' := fun t t' a1 a2 a3 a4 e => by
          have e1 := spot_num (r := o) (by omega) (by omega) (on t a1 a2).1 (on t a1 a2).2
          have e2 := spot_num (r := o) (by omega) (by omega) (on t' a3 a4).1 (on t' a3 a4).2
          rw [e, e2] at e1
          have e3 : sx * t = sx * t' := by have := congrArg Prod.fst e1; simp only at this; omega
          have e4 : sy * t = sy * t' := by have := congrArg Prod.snd e1; simp only at this; omega
          rcases l2 with h | h
          · exact Int.eq_of_mul_eq_mul_left h e3
          · exact Int.eq_of_mul_eq_mul_left h e4
        constructor
        · have nd : ((List.range (hi - lo + 1).toNat).map fun (k : Nat) => (numV o R C (x0 + sx * (lo + k), y0 + sy * (lo + k))).toNat).Nodup := by
            refine List.pairwise_map.mpr (List.nodup_range.imp_of_mem fun {a b} ha hb hn e => hn ?_)
            have ha' := List.mem_range.mp ha
            have hb' := List.mem_range.mp hb
            have r1 := rng (lo + a) (by omega) (by omega)
            have r2 := rng (lo + b) (by omega) (by omega)
            have := inj (lo + a) (lo + b) (by omega) (by omega) (by omega) (by omega) (by omega)
            omega
          have q := same_len (l := sameI o p R C) (List.nodup_range.filter _) nd fun i => by
            rw [mem2 i, List.mem_map]
            constructor
            · rintro ⟨t, c1, c2, c3⟩
              refine ⟨(t - lo).toNat, List.mem_range.mpr (by omega), ?_⟩
              rw [show lo + ((t - lo).toNat : Int) = t by omega, ← c3]
              rfl
            · rintro ⟨k, c1, c2⟩
              have ck := List.mem_range.mp c1
              refine ⟨lo + k, by omega, by omega, ?_⟩
              have := rng (lo + k) (by omega) (by omega)
              omega
          rw [q, List.length_map, List.length_range]
          simp only
          omega
        · have hlo := (mem2 (numV o R C (x0 + sx * lo, y0 + sy * lo)).toNat).mpr ⟨lo, Int.le_refl _, l1, by have := rng lo (Int.le_refl _) l1; omega⟩
          have hhi := (mem2 (numV o R C (x0 + sx * hi, y0 + sy * hi)).toNat).mpr ⟨hi, l1, Int.le_refl _, by have := rng hi l1 (Int.le_refl _); omega⟩
          have low : ∀ i ∈ sameI o p R C, min (numV o R C (x0 + sx * lo, y0 + sy * lo)) (numV o R C (x0 + sx * hi, y0 + sy * hi)) ≤ (i : Int) := fun i hi' => by
            obtain ⟨t, c1, c2, c3⟩ := (mem2 i).mp hi'
            have aff : ∀ t, lo ≤ t → t ≤ hi → numV o R C (x0 + sx * t, y0 + sy * t) = (pA o R C * x0 + pB o R C * y0 + pC o R C) + (pA o R C * sx + pB o R C * sy) * t := fun t h1 h2 => by
              rw [num o _ (on t h1 h2)]
              simp only [Int.mul_add, Int.add_mul, Int.mul_assoc]
              omega
            rw [c3, aff t c1 c2, aff lo (Int.le_refl _) l1, aff hi l1 (Int.le_refl _)]
            generalize pA o R C * sx + pB o R C * sy = v
            by_cases hv : 0 ≤ v
            · have := Int.mul_le_mul_of_nonneg_left c1 hv
              omega
            · have := Int.mul_le_mul_of_nonpos_left (show v ≤ 0 by omega) c2
              omega
          have srt : (sameI o p R C).Pairwise (· < ·) := List.pairwise_lt_range.filter _
          cases hs : sameI o p R C with
          | nil => rw [hs] at hlo; cases hlo
          | cons h tl =>
            rw [hs] at srt hlo hhi low
            have hmin : ∀ i ∈ h :: tl, h ≤ i := fun i hi' => by
              rcases List.mem_cons.mp hi' with rfl | hi'
              · exact Nat.le_refl _
              · exact Nat.le_of_lt ((List.pairwise_cons.mp srt).1 i hi')
            have m1 := hmin _ hlo
            have m2 := hmin _ hhi
            have m3 := low h List.mem_cons_self
            have r1 := rng lo (Int.le_refl _) l1
            have r2 := rng hi l1 (Int.le_refl _)
            simp only [List.head?_cons, Option.map_some]
            congr 1
            show _ = (h : Int)
            omega
end QL

/-! QFixE: what the functions of the same indices give. -/
namespace QL
open PySem PySem.Spec L2 Q
def d_parts_of : Q.Def := { name := "parts_of", arity := 2, names := ["rule", "size", "first", "row", "column"], body := [.set (.name 2) (.call "index_of" [.var 0, .var 1, .tup [.int 0, .int 0]]), .set (.name 3) (.ite (.cmp .Gt (.sub (.var 1) (.int 0)) (.int 1)) (.bin .Sub (.call "index_of" [.var 0, .var 1, .tup [.int 1, .int 0]]) (.var 2)) (.int 0)), .set (.name 4) (.ite (.cmp .Gt (.sub (.var 1) (.int 1)) (.int 1)) (.bin .Sub (.call "index_of" [.var 0, .var 1, .tup [.int 0, .int 1]]) (.var 2)) (.int 0)), .ret (.tup [.var 3, .var 4, .var 2])] }
def d_combined : Q.Def := { name := "combined", arity := 2, names := ["one", "other", "common", "first", "second"], body := [.ite (.cmp .Eq (.var 1) (.int 0)) [.ret (.tup [.bi .abs false [.var 0], .ite (.cmp .GtE (.var 0) (.int 0)) (.int 1) (.neg (.int 1)), .int 0])] [], .set (.tup [.name 2, .name 3, .name 4]) (.call "combined" [.var 1, .bin .Mod (.var 0) (.var 1)]), .ret (.tup [.var 2, .var 4, .bin .Sub (.var 3) (.bin .Mult (.bin .FloorDiv (.var 0) (.var 1)) (.var 4))])] }
def d_steps_within : Q.Def := { name := "steps_within", arity := 3, names := ["begin", "step", "many"], body := [.ite (.cmp .Gt (.var 1) (.int 0)) [.ret (.tup [.neg (.bin .FloorDiv (.var 0) (.var 1)), .bin .FloorDiv (.bin .Sub (.bin .Sub (.var 2) (.int 1)) (.var 0)) (.var 1)])] [], .ret (.tup [.neg (.bin .FloorDiv (.bin .Sub (.bin .Sub (.var 2) (.int 1)) (.var 0)) (.neg (.var 1))), .bin .FloorDiv (.var 0) (.neg (.var 1))])] }
def d_span : Q.Def := { name := "span", arity := 3, names := ["begin", "step", "many"], body := [.ite (.cmp .NotEq (.var 1) (.int 0)) [.ret (.call "steps_within" [.var 0, .var 1, .var 2])] [], .ret (.ite (.chain .LtE .Lt (.int 0) (.var 0) (.var 2)) (.tup [.neg (.bin .Pow (.int 10) (.int 40)), .bin .Pow (.int 10) (.int 40)]) (.tup [.int 1, .int 0]))] }
def d_same_line : Q.Def := { name := "same_line", arity := 3, names := ["one", "other", "size", "first", "second", "across", "down", "due", "common", "left", "right", "row", "column", "row_step", "column_step", "spans", "least", "greatest", "low", "high"], body := [.par [3, 4] [.call "parts_of" [.var 0, .var 2], .call "parts_of" [.var 1, .var 2]], .par [5, 6, 7] [.bin .Sub (.sub (.var 3) (.int 0)) (.sub (.var 4) (.int 0)), .bin .Sub (.sub (.var 3) (.int 1)) (.sub (.var 4) (.int 1)), .bin .Sub (.sub (.var 4) (.int 2)) (.sub (.var 3) (.int 2))], .set (.tup [.name 8, .name 9, .name 10]) (.call "combined" [.var 5, .var 6]), .ite (.cmp .NotEq (.bin .Mod (.var 7) (.var 8)) (.int 0)) [.ret (.non)] [], .par [11, 12] [.bin .Mult (.var 9) (.bin .FloorDiv (.var 7) (.var 8)), .bin .Mult (.var 10) (.bin .FloorDiv (.var 7) (.var 8))], .par [13, 14] [.bin .FloorDiv (.var 6) (.var 8), .neg (.bin .FloorDiv (.var 5) (.var 8))], .set (.name 15) (.lst false [.call "span" [.var 11, .var 13, .sub (.var 2) (.int 0)], .call "span" [.var 12, .var 14, .sub (.var 2) (.int 1)]]), .par [16, 17] [.bi .max false [.comp [("low", 18), ("high", 19)] (.tup [.name 18, .name 19]) (.seq (.var 15)) (.bl true) (.var 18)], .bi .min false [.comp [("low", 18), ("high", 19)] (.tup [.name 18, .name 19]) (.seq (.var 15)) (.bl true) (.var 19)]], .ret (.ite (.cmp .Gt (.var 16) (.var 17)) (.non) (.tup [.var 11, .var 12, .var 13, .var 14, .var 16, .var 17]))] }
def d_is_equal : Q.Def := { name := "is_equal", arity := 3, names := ["one", "other", "size"], body := [.ret (.cmp .Eq (.call "parts_of" [.var 0, .var 2]) (.call "parts_of" [.var 1, .var 2]))] }
def d_count_same : Q.Def := { name := "count_same", arity := 3, names := ["one", "other", "size", "first", "second", "line"], body := [.ite (.call "is_equal" [.var 0, .var 1, .var 2]) [.ret (.bin .Mult (.sub (.var 2) (.int 0)) (.sub (.var 2) (.int 1)))] [], .par [3, 4] [.call "parts_of" [.var 0, .var 2], .call "parts_of" [.var 1, .var 2]], .ite (.cmp .Eq (.slice (.var 3) (.none_) (.int 2)) (.slice (.var 4) (.none_) (.int 2))) [.ret (.int 0)] [], .set (.name 5) (.call "same_line" [.var 0, .var 1, .var 2]), .ret (.ite (.isN (.var 5)) (.int 0) (.bin .Add (.bin .Sub (.sub (.var 5) (.int 5)) (.sub (.var 5) (.int 4))) (.int 1)))] }
def d_first_same : Q.Def := { name := "first_same", arity := 3, names := ["one", "other", "size", "first", "second", "line", "row", "column", "row_step", "column_step", "least", "greatest", "ends", "step", "place"], body := [.ite (.call "is_equal" [.var 0, .var 1, .var 2]) [.ret (.int 0)] [], .par [3, 4] [.call "parts_of" [.var 0, .var 2], .call "parts_of" [.var 1, .var 2]], .set (.name 5) (.ite (.cmp .NotEq (.slice (.var 3) (.none_) (.int 2)) (.slice (.var 4) (.none_) (.int 2))) (.call "same_line" [.var 0, .var 1, .var 2]) (.non)), .ite (.isN (.var 5)) [.ret (.non)] [], .set (.tup [.name 6, .name 7, .name 8, .name 9, .name 10, .name 11]) (.var 5), .set (.name 12) (.comp [("step", 13)] (.name 13) (.seq (.tup [.var 10, .var 11])) (.bl true) (.tup [.bin .Add (.var 6) (.bin .Mult (.var 8) (.var 13)), .bin .Add (.var 7) (.bin .Mult (.var 9) (.var 13))])), .ret (.bi .min false [.comp [("place", 14)] (.name 14) (.seq (.var 12)) (.bl true) (.call "index_of" [.var 0, .var 2, .var 14])])] }
def B110 (a : Int) : Prop := a.natAbs < 2 ^ 110
theorem fdiv_abs {a b : Int} (hb : b ≠ 0) : (a.fdiv b).natAbs ≤ a.natAbs := by
  have e := fdm a b
  have m : (a.fmod b).natAbs < b.natAbs := by rcases ss_next (a := a) hb with h | h <;> omega
  have e2 : (b * a.fdiv b).natAbs ≤ a.natAbs + (a.fmod b).natAbs := by omega
  rw [Int.natAbs_mul] at e2
  by_cases hq : (a.fdiv b).natAbs ≤ a.natAbs
  · exact hq
  · exfalso
    have h1 : a.natAbs + 1 ≤ (a.fdiv b).natAbs := by omega
    have h2 := Nat.mul_le_mul_left b.natAbs h1
    rw [Nat.mul_add, Nat.mul_one] at h2
    have h3 : a.natAbs ≤ b.natAbs * a.natAbs := by
      have := Nat.mul_le_mul_right a.natAbs (show 1 ≤ b.natAbs by omega)
      omega
    omega
theorem p110 {x : Nat} (h : x < 2 ^ 110) : x < 2 ^ 1000 := Nat.lt_of_lt_of_le h (Nat.pow_le_pow_right (by decide) (by decide))
theorem comb_small {n : Nat} {a b d l r : Int} (hn : n ≤ 300) (ha : B110 a) (hb : B110 b) (h : combV n a b = some (d, l, r)) : l.natAbs < 2 ^ 600 ∧ r.natAbs < 2 ^ 600 := by
  have one : ∀ {a : Int}, ((if a < 0 then -a else a, if 0 ≤ a then (1 : Int) else -1, (0 : Int)) : Int × Int × Int) = (d, l, r) → l.natAbs < 2 ^ 600 ∧ r.natAbs < 2 ^ 600 := fun {a} e => by
    cases e
    constructor
    · split <;> decide
    · decide
  cases n with
  | zero =>
    unfold combV at h
    split at h
    · exact one (Option.some.inj h)
    · cases h
  | succ n =>
    unfold combV at h
    split at h
    · exact one (Option.some.inj h)
    · rename_i hb0
      obtain ⟨⟨c, f, s⟩, h1, h2⟩ := Option.map_eq_some_iff.mp h
      cases h2
      have bd := comb_bound (ss_next hb0) h1
      have q := fdiv_abs (a := a) hb0
      unfold B110 at ha hb
      have t0 : 2 ^ n * b.natAbs ≤ 2 ^ 300 * 2 ^ 110 := Nat.mul_le_mul (Nat.pow_le_pow_right (by decide) (by omega)) (by omega)
      have t1 : (f - a.fdiv b * s).natAbs ≤ f.natAbs + (a.fdiv b).natAbs * s.natAbs := by
        rw [← Int.natAbs_mul]
        exact Int.natAbs_sub_le _ _
      have t2 : (a.fdiv b).natAbs * s.natAbs ≤ 2 ^ 110 * (2 ^ 300 * 2 ^ 110) := Nat.mul_le_mul (by omega) (by omega)
      have t3 : 2 ^ 300 * 2 ^ 110 + 2 ^ 110 * (2 ^ 300 * 2 ^ 110) < 2 ^ 600 := by decide +kernel
      simp only
      omega
theorem fmod_110 {a b : Int} (hb0 : b ≠ 0) (hb : B110 b) : B110 (a.fmod b) := by
  unfold B110 at *
  rcases ss_next (a := a) hb0 with h | h <;> omega
section
variable {cst : Str → Option D} {turns : Nat} {tab : Str → Option Def} {k : Nat} {st : Store}
theorem combined (ht : tab "combined" = some d_combined) : ∀ {n : Nat} {a b d l r : Int}, n ≤ 300 → B110 a → B110 b → combV n a b = some (d, l, r) → callN cst turns tab (k + 1 + n) "combined" [.int a, .int b] st = some (.tup [.int d, .int l, .int r], st) := by
  have base : ∀ {k : Nat} {a d l r : Int}, ((if a < 0 then -a else a, if 0 ≤ a then (1 : Int) else -1, (0 : Int)) : Int × Int × Int) = (d, l, r) → callN cst turns tab (k + 1) "combined" [.int a, .int 0] st = some (.tup [.int d, .int l, .int r], st) := fun {k a d l r} e => by
    cases e
    rw [call_eq ht rfl]
    by_cases ha : 0 ≤ a
    · simp only [d_combined, List.map_cons, List.map_nil, List.length_cons, List.length_nil, Nat.reduceAdd, Nat.reduceSub, Nat.reduceLT, List.replicate, List.cons_append, List.nil_append, Go, Ev1, Ev2, Ev3, Ex1, Ex2, Pl, Val1, set_name, kSet_name, kSet_tup, stTs_name, stTs_nil, setAll_cons, evl_cons, Sx, List.getElem?_cons_zero, List.getElem?_cons_succ, List.set_cons_zero, List.set_cons_succ, Option.map_some, Option.bind_some, decide_eq_true_eq, if_true, if_false, Bool.false_eq_true, asO_some, asO_no, noneX_t, noneX_i, noneX_v, noneX_n, kAug_add, kAug_sub, Isa, MkT, comp_eq, for_eq, lst_eq_nil, BEq.rfl, ha, decide_true]
    · simp only [d_combined, List.map_cons, List.map_nil, List.length_cons, List.length_nil, Nat.reduceAdd, Nat.reduceSub, Nat.reduceLT, List.replicate, List.cons_append, List.nil_append, Go, Ev1, Ev2, Ev3, Ex1, Ex2, Pl, Val1, set_name, kSet_name, kSet_tup, stTs_name, stTs_nil, setAll_cons, evl_cons, Sx, List.getElem?_cons_zero, List.getElem?_cons_succ, List.set_cons_zero, List.set_cons_succ, Option.map_some, Option.bind_some, decide_eq_true_eq, if_true, if_false, Bool.false_eq_true, asO_some, asO_no, noneX_t, noneX_i, noneX_v, noneX_n, kAug_add, kAug_sub, Isa, MkT, comp_eq, for_eq, lst_eq_nil, BEq.rfl, ha, decide_false]
  intro n
  induction n with
  | zero =>
    intro a b d l r hn ha hb h
    unfold combV at h
    split at h
    · rename_i hb0; subst hb0; exact base (Option.some.inj h)
    · cases h
  | succ n ih =>
    intro a b d l r hn ha hb h
    unfold combV at h
    split at h
    · rename_i hb0
      subst hb0
      rw [show k + 1 + (n + 1) = k + (n + 1) + 1 by omega]
      exact base (Option.some.inj h)
    · rename_i hb0
      obtain ⟨⟨c, f, s⟩, h1, h2⟩ := Option.map_eq_some_iff.mp h
      cases h2
      have e1 := ih (by omega) hb (fmod_110 hb0 hb) h1
      have sm := comb_small (by omega) hb (fmod_110 hb0 hb) h1
      have p6 : (2 : Nat) ^ 600 ≤ 2 ^ 1000 := Nat.pow_le_pow_right (by decide) (by decide)
      have m1 : binD .Mult (.int (a.fdiv b)) (.int s) st = some (.int (a.fdiv b * s), st) := mult_ok (p110 (Nat.lt_of_le_of_lt (fdiv_abs hb0) ha)) (Nat.lt_of_lt_of_le sm.2 p6)
      have hb' : (b == 0) = false := by simpa using hb0
      have e : k + 1 + (n + 1) = (k + 1 + n) + 1 := by omega
      rw [e, call_eq ht rfl]
      simp only [d_combined, List.map_cons, List.map_nil, List.length_cons, List.length_nil, Nat.reduceAdd, Nat.reduceSub, Nat.reduceLT, List.replicate, List.cons_append, List.nil_append, Go, Ev1, Ev2, Ev3, Ex1, Ex2, Pl, Val1, set_name, kSet_name, kSet_tup, stTs_name, stTs_nil, setAll_cons, evl_cons, Sx, List.getElem?_cons_zero, List.getElem?_cons_succ, List.set_cons_zero, List.set_cons_succ, Option.map_some, Option.bind_some, decide_eq_true_eq, if_true, if_false, Bool.false_eq_true, asO_some, asO_no, noneX_t, noneX_i, noneX_v, noneX_n, kAug_add, kAug_sub, Isa, MkT, comp_eq, for_eq, lst_eq_nil, BEq.rfl, hb', fmod_ok hb0, fdiv_ok hb0 (p110 hb), e1, m1]
theorem parts_of (ht : tab "parts_of" = some d_parts_of) (t_index : tab "index_of" = some d_index_of) {r : Rule} {R C : Int} (hR : 1 ≤ R ∧ R ≤ 1000000000000000) (hC : 1 ≤ C ∧ C ≤ 1000000000000000) : callN cst turns tab (k + 2) "parts_of" [ruleD r, sizeD R C] st = some (.tup [.int (pA r R C), .int (pB r R C), .int (pC r R C)], st) := by
  have bR := big_of (x := R) (by omega) (by omega)
  have bC := big_of (x := C) (by omega) (by omega)
  have i1 : callN cst turns tab (k + 1) "index_of" [ruleD r, sizeD R C, .tup [.int 0, .int 0]] st = some (.int (numV r R C (0, 0)), st) := index_of (p := (0, 0)) t_index bR bC (big_in (by decide) (by decide)) (big_in (by decide) (by decide))
  have i2 : callN cst turns tab (k + 1) "index_of" [ruleD r, sizeD R C, .tup [.int 1, .int 0]] st = some (.int (numV r R C (1, 0)), st) := index_of (p := (1, 0)) t_index bR bC (big_in (by decide) (by decide)) (big_in (by decide) (by decide))
  have i3 : callN cst turns tab (k + 1) "index_of" [ruleD r, sizeD R C, .tup [.int 0, .int 1]] st = some (.int (numV r R C (0, 1)), st) := index_of (p := (0, 1)) t_index bR bC (big_in (by decide) (by decide)) (big_in (by decide) (by decide))
  rw [call_eq ht rfl]
  unfold pA pB pC
  by_cases h1 : 1 < R <;> by_cases h2 : 1 < C <;> simp only [d_parts_of, List.map_cons, List.map_nil, List.length_cons, List.length_nil, Nat.reduceAdd, Nat.reduceSub, Nat.reduceLT, List.replicate, List.cons_append, List.nil_append, Go, Ev1, Ev2, Ev3, Ex1, Ex2, Pl, Val1, set_name, kSet_name, kSet_tup, stTs_name, stTs_nil, setAll_cons, evl_cons, Sx, List.getElem?_cons_zero, List.getElem?_cons_succ, List.set_cons_zero, List.set_cons_succ, Option.map_some, Option.bind_some, decide_eq_true_eq, if_true, if_false, Bool.false_eq_true, asO_some, asO_no, noneX_t, noneX_i, noneX_v, noneX_n, kAug_add, kAug_sub, Isa, MkT, comp_eq, for_eq, lst_eq_nil, BEq.rfl, RuleE, i1, i2, i3, h1, h2]
theorem span (ht : tab "span" = some d_span) (ht2 : tab "steps_within" = some d_steps_within) {b s m : Int} (hs : B110 s) : callN cst turns tab (k + 2) "span" [.int b, .int s, .int m] st = some (.tup [.int (spanV b s m).1, .int (spanV b s m).2], st) := by
  have stp : s ≠ 0 → callN cst turns tab (k + 1) "steps_within" [.int b, .int s, .int m] st = some (.tup [.int (spanV b s m).1, .int (spanV b s m).2], st) := fun h0 => by
    have hs' : (-s).natAbs < 2 ^ 1000 := by rw [Int.natAbs_neg]; exact p110 hs
    have h0' : -s ≠ 0 := by omega
    rw [call_eq ht2 rfl]
    unfold spanV
    rw [if_neg h0]
    by_cases hp : 0 < s <;> simp only [d_steps_within, List.map_cons, List.map_nil, List.length_cons, List.length_nil, Nat.reduceAdd, Nat.reduceSub, Nat.reduceLT, List.replicate, List.cons_append, List.nil_append, Go, Ev1, Ev2, Ev3, Ex1, Ex2, Pl, Val1, set_name, kSet_name, kSet_tup, stTs_name, stTs_nil, setAll_cons, evl_cons, Sx, List.getElem?_cons_zero, List.getElem?_cons_succ, List.set_cons_zero, List.set_cons_succ, Option.map_some, Option.bind_some, decide_eq_true_eq, if_true, if_false, Bool.false_eq_true, asO_some, asO_no, noneX_t, noneX_i, noneX_v, noneX_n, kAug_add, kAug_sub, Isa, MkT, comp_eq, for_eq, lst_eq_nil, BEq.rfl, hp, fdiv_ok h0 (p110 hs), fdiv_ok h0' hs']
  rw [call_eq ht rfl]
  by_cases h0 : s = 0
  · subst h0
    unfold spanV
    rw [if_pos rfl]
    have ch : ∀ o x y, chB (some o) x y = if o = true then x else y := fun _ _ _ => rfl
    by_cases h1 : 0 ≤ b <;> by_cases h2 : b < m <;> simp only [d_span, List.map_cons, List.map_nil, List.length_cons, List.length_nil, Nat.reduceAdd, Nat.reduceSub, Nat.reduceLT, List.replicate, List.cons_append, List.nil_append, Go, Ev1, Ev2, Ev3, Ex1, Ex2, Pl, Val1, set_name, kSet_name, kSet_tup, stTs_name, stTs_nil, setAll_cons, evl_cons, Sx, List.getElem?_cons_zero, List.getElem?_cons_succ, List.set_cons_zero, List.set_cons_succ, Option.map_some, Option.bind_some, decide_eq_true_eq, if_true, if_false, Bool.false_eq_true, asO_some, asO_no, noneX_t, noneX_i, noneX_v, noneX_n, kAug_add, kAug_sub, Isa, MkT, comp_eq, for_eq, lst_eq_nil, BEq.rfl, Bool.not_true, ch, h1, h2, decide_true, decide_false, pow40, and_self, and_true, and_false, and_self]
  · have h0' : (s == 0) = false := by simpa using h0
    simp only [d_span, List.map_cons, List.map_nil, List.length_cons, List.length_nil, Nat.reduceAdd, Nat.reduceSub, Nat.reduceLT, List.replicate, List.cons_append, List.nil_append, Go, Ev1, Ev2, Ev3, Ex1, Ex2, Pl, Val1, set_name, kSet_name, kSet_tup, stTs_name, stTs_nil, setAll_cons, evl_cons, Sx, List.getElem?_cons_zero, List.getElem?_cons_succ, List.set_cons_zero, List.set_cons_succ, Option.map_some, Option.bind_some, decide_eq_true_eq, if_true, if_false, Bool.false_eq_true, asO_some, asO_no, noneX_t, noneX_i, noneX_v, noneX_n, kAug_add, kAug_sub, Isa, MkT, comp_eq, for_eq, lst_eq_nil, BEq.rfl, h0', Bool.not_false, stp h0]
theorem span_small {b s m : Int} (hb : b.natAbs < 2 ^ 800) (hm : m.natAbs < 2 ^ 110) : (spanV b s m).1.natAbs < 2 ^ 900 ∧ (spanV b s m).2.natAbs < 2 ^ 900 := by
  have e1 : (2 : Nat) ^ 800 + 2 ^ 110 + 1 < 2 ^ 900 := by decide +kernel
  have e2 : (10000000000000000000000000000000000000000 : Nat) < 2 ^ 900 := by decide +kernel
  unfold spanV
  split
  · split
    · exact ⟨by simpa using e2, by simpa using e2⟩
    · exact ⟨by decide +kernel, by decide +kernel⟩
  · rename_i h0
    have h0' : -s ≠ 0 := by omega
    have q1 := fdiv_abs (a := b) h0
    have q2 := fdiv_abs (a := m - 1 - b) h0
    have q3 := fdiv_abs (a := b) h0'
    have q4 := fdiv_abs (a := m - 1 - b) h0'
    have l : (m - 1 - b).natAbs ≤ m.natAbs + 1 + b.natAbs := by omega
    split
    · simp only [Int.natAbs_neg]; omega
    · simp only [Int.natAbs_neg]; omega
/-- what lies on a line -/
def lineD : Option (Int × Int × Int × Int × Int × Int) → D
  | none => .non
  | some (a, b, c, d, e, f) => .tup [.int a, .int b, .int c, .int d, .int e, .int f]
theorem part_small {r : Rule} {R C : Int} (hR : 1 ≤ R ∧ R ≤ 1000000000000000) (hC : 1 ≤ C ∧ C ≤ 1000000000000000) : (-1000000000000000000000000000000 ≤ pA r R C ∧ pA r R C ≤ 1000000000000000000000000000000) ∧ (-1000000000000000000000000000000 ≤ pB r R C ∧ pB r R C ≤ 1000000000000000000000000000000) ∧ (-1000000000000000000000000000000 ≤ pC r R C ∧ pC r R C ≤ 1000000000000000000000000000000) := by
  have hm := mul_le (R := R) (C := C) (a := 1000000000000000) (b := 1000000000000000) ⟨by omega, hR.2⟩ ⟨by omega, hC.2⟩
  refine ⟨?_, pB_small hR hC, ?_⟩
  · unfold pA
    split
    · have a := num_rng (r := r) (R := R) (C := C) (p := (1, 0)) (by omega) (by omega) (by simp; omega) (by simp; omega)
      have b := num_rng (r := r) (R := R) (C := C) (p := (0, 0)) (by omega) (by omega) (by simp; omega) (by simp; omega)
      omega
    · omega
  · unfold pC
    have b := num_rng (r := r) (R := R) (C := C) (p := (0, 0)) (by omega) (by omega) (by simp; omega) (by simp; omega)
    omega
theorem b110_of {a : Int} (h : -10000000000000000000000000000000 ≤ a ∧ a ≤ 10000000000000000000000000000000) : B110 a := by
  unfold B110
  have : (10000000000000000000000000000000 : Int) < ((2 ^ 110 : Nat) : Int) := by decide +kernel
  omega
theorem same_line (ht : tab "same_line" = some d_same_line) (t1 : tab "parts_of" = some d_parts_of) (t2 : tab "combined" = some d_combined) (t3 : tab "span" = some d_span) (t4 : tab "steps_within" = some d_steps_within) (t_index : tab "index_of" = some d_index_of) {o p : Rule} {R C : Int} (hR : 1 ≤ R ∧ R ≤ 1000000000000000) (hC : 1 ≤ C ∧ C ≤ 1000000000000000) (hne : sameAB o p R C = false) :
    callN cst turns tab (k + 210) "same_line" [ruleD o, ruleD p, sizeD R C] st = some (lineD (sameLine o p R C), st) := by
  have po := part_small (r := o) hR hC
  have pp := part_small (r := p) hR hC
  have a1 : callN cst turns tab (k + 209) "parts_of" [ruleD o, sizeD R C] st = some (.tup [.int (pA o R C), .int (pB o R C), .int (pC o R C)], st) := parts_of (k := k + 207) t1 t_index hR hC
  have a2 : callN cst turns tab (k + 209) "parts_of" [ruleD p, sizeD R C] st = some (.tup [.int (pA p R C), .int (pB p R C), .int (pC p R C)], st) := parts_of (k := k + 207) t1 t_index hR hC
  have hA : B110 (pA o R C - pA p R C) := b110_of (by omega)
  have hB : B110 (pB o R C - pB p R C) := b110_of (by omega)
  have hB' : (pB o R C - pB p R C).natAbs < 2 ^ 102 := by
    have : (2 : Int) * 1000000000000000000000000000000 < ((2 ^ 102 : Nat) : Int) := by decide +kernel
    omega
  have h0 : pA o R C - pA p R C ≠ 0 ∨ pB o R C - pB p R C ≠ 0 := by
    by_cases e1 : pA o R C = pA p R C
    · refine .inr fun e2 => ?_
      unfold sameAB at hne
      have e3 : pB o R C = pB p R C := by omega
      simp [e1, e3] at hne
    · exact .inl (by omega)
  have hD : (pC p R C - pC o R C).natAbs < 2 ^ 110 := b110_of (by omega)
  unfold sameLine
  generalize hAA : pA o R C - pA p R C = A at *
  generalize hBB : pB o R C - pB p R C = B at *
  generalize hDD : pC p R C - pC o R C = DD at *
  obtain ⟨⟨d, l, r⟩, hc⟩ := comb_all (a := A) hB'
  have hc : combV 205 A B = some (d, l, r) := hc
  have a3 : callN cst turns tab (k + 209) "combined" [.int A, .int B] st = some (.tup [.int d, .int l, .int r], st) := combined (k := k + 3) (n := 205) t2 (by decide) hA hB hc
  have sm := comb_small (by decide) hA hB hc
  obtain ⟨g1, g2, g3, g4⟩ := comb_good hc
  have hd0 : d ≠ 0 := fun e => by
    subst e
    rw [Int.zero_dvd] at g3 g4
    rcases h0 with h | h
    · exact h g3
    · exact h g4
  have hd : d.natAbs < 2 ^ 110 := by
    rcases h0 with h | h
    · have := Nat.le_of_dvd (by omega : 0 < A.natAbs) (Int.natAbs_dvd_natAbs.mpr g3)
      unfold B110 at hA
      omega
    · have := Nat.le_of_dvd (by omega : 0 < B.natAbs) (Int.natAbs_dvd_natAbs.mpr g4)
      unfold B110 at hB
      omega
  have q : (DD.fdiv d).natAbs < 2 ^ 110 := Nat.lt_of_le_of_lt (fdiv_abs hd0) hD
  have p6 : (2 : Nat) ^ 600 ≤ 2 ^ 1000 := Nat.pow_le_pow_right (by decide) (by decide)
  have m1 : binD .Mult (.int l) (.int (DD.fdiv d)) st = some (.int (l * DD.fdiv d), st) := mult_ok (Nat.lt_of_lt_of_le sm.1 p6) (p110 q)
  have m2 : binD .Mult (.int r) (.int (DD.fdiv d)) st = some (.int (r * DD.fdiv d), st) := mult_ok (Nat.lt_of_lt_of_le sm.2 p6) (p110 q)
  have s1 : callN cst turns tab (k + 209) "span" [.int (l * DD.fdiv d), .int (B.fdiv d), .int R] st = _ := span (k := k + 207) t3 t4 (Nat.lt_of_le_of_lt (fdiv_abs hd0) hB)
  have s2 : callN cst turns tab (k + 209) "span" [.int (r * DD.fdiv d), .int (-(A.fdiv d)), .int C] st = _ := span (k := k + 207) t3 t4 (by unfold B110; rw [Int.natAbs_neg]; exact Nat.lt_of_le_of_lt (fdiv_abs hd0) hA)
  rw [call_eq ht rfl]
  unfold lineV
  rw [hc]
  simp only [Option.bind_some]
  by_cases hm : DD.fmod d = 0
  · rw [if_pos hm]
    simp only [d_same_line, List.map_cons, List.map_nil, List.length_cons, List.length_nil, Nat.reduceAdd, Nat.reduceSub, Nat.reduceLT, List.replicate, List.cons_append, List.nil_append, Go, Ev1, Ev2, Ev3, Ex1, Ex2, Pl, Val1, set_name, kSet_name, kSet_tup, stTs_name, stTs_nil, setAll_cons, evl_cons, Sx, List.getElem?_cons_zero, List.getElem?_cons_succ, List.set_cons_zero, List.set_cons_succ, Option.map_some, Option.bind_some, decide_eq_true_eq, if_true, if_false, Bool.false_eq_true, asO_some, asO_no, noneX_t, noneX_i, noneX_v, noneX_n, kAug_add, kAug_sub, Isa, MkT, comp_eq, for_eq, lst_eq_nil, BEq.rfl, RuleE, a1, a2, hAA, hBB, hDD, a3, fmod_ok hd0, hm, Bool.not_true, fdiv_ok hd0 (p110 hd), m1, m2, s1, s2, Lp, one1_pair, wipeE, and_self, Tri]
  
    generalize max (spanV (l * DD.fdiv d) (B.fdiv d) R).1 (spanV (r * DD.fdiv d) (-(A.fdiv d)) C).1 = lo
    generalize min (spanV (l * DD.fdiv d) (B.fdiv d) R).2 (spanV (r * DD.fdiv d) (-(A.fdiv d)) C).2 = hi
    have m6 : ∀ (a b c d e f : D), mkT [a, b, c, d, e, f] st = some (.tup [a, b, c, d, e, f], st) := fun a b c d e f => mkT_ok (by simp [sizeLine])
    by_cases hlt : hi < lo <;> simp only [hlt, m6, List.map_cons, List.map_nil, List.length_cons, List.length_nil, Nat.reduceAdd, Nat.reduceSub, Nat.reduceLT, List.replicate, List.cons_append, List.nil_append, Go, Ev1, Ev2, Ev3, Ex1, Ex2, Pl, Val1, set_name, kSet_name, kSet_tup, stTs_name, stTs_nil, setAll_cons, evl_cons, Sx, List.getElem?_cons_zero, List.getElem?_cons_succ, List.set_cons_zero, List.set_cons_succ, Option.map_some, Option.bind_some, decide_eq_true_eq, if_true, if_false, Bool.false_eq_true, asO_some, asO_no, noneX_t, noneX_i, noneX_v, noneX_n, kAug_add, kAug_sub, Isa, MkT, comp_eq, for_eq, lst_eq_nil, BEq.rfl] <;> rfl
  · rw [if_neg hm]
    have hm' : (DD.fmod d == 0) = false := by simpa using hm
    simp only [d_same_line, List.map_cons, List.map_nil, List.length_cons, List.length_nil, Nat.reduceAdd, Nat.reduceSub, Nat.reduceLT, List.replicate, List.cons_append, List.nil_append, Go, Ev1, Ev2, Ev3, Ex1, Ex2, Pl, Val1, set_name, kSet_name, kSet_tup, stTs_name, stTs_nil, setAll_cons, evl_cons, Sx, List.getElem?_cons_zero, List.getElem?_cons_succ, List.set_cons_zero, List.set_cons_succ, Option.map_some, Option.bind_some, decide_eq_true_eq, if_true, if_false, Bool.false_eq_true, asO_some, asO_no, noneX_t, noneX_i, noneX_v, noneX_n, kAug_add, kAug_sub, Isa, MkT, comp_eq, for_eq, lst_eq_nil, BEq.rfl, RuleE, a1, a2, hAA, hBB, hDD, a3, fmod_ok hd0, hm', Bool.not_false]
    rfl
theorem is_equal (ht : tab "is_equal" = some d_is_equal) (t1 : tab "parts_of" = some d_parts_of) (t_index : tab "index_of" = some d_index_of) {o p : Rule} {R C : Int} (hR : 1 ≤ R ∧ R ≤ 1000000000000000) (hC : 1 ≤ C ∧ C ≤ 1000000000000000) :
    callN cst turns tab (k + 3) "is_equal" [ruleD o, ruleD p, sizeD R C] st = some (.bl (sameP o p R C), st) := by
  have a1 : callN cst turns tab (k + 2) "parts_of" [ruleD o, sizeD R C] st = some (.tup [.int (pA o R C), .int (pB o R C), .int (pC o R C)], st) := parts_of (k := k) t1 t_index hR hC
  have a2 : callN cst turns tab (k + 2) "parts_of" [ruleD p, sizeD R C] st = some (.tup [.int (pA p R C), .int (pB p R C), .int (pC p R C)], st) := parts_of (k := k) t1 t_index hR hC
  rw [call_eq ht rfl]
  simp only [d_is_equal, List.map_cons, List.map_nil, List.length_cons, List.length_nil, Nat.reduceAdd, Nat.reduceSub, Nat.reduceLT, List.replicate, List.cons_append, List.nil_append, Go, Ev1, Ev2, Ev3, Ex1, Ex2, Pl, Val1, set_name, kSet_name, kSet_tup, stTs_name, stTs_nil, setAll_cons, evl_cons, Sx, List.getElem?_cons_zero, List.getElem?_cons_succ, List.set_cons_zero, List.set_cons_succ, Option.map_some, Option.bind_some, decide_eq_true_eq, if_true, if_false, Bool.false_eq_true, asO_some, asO_no, noneX_t, noneX_i, noneX_v, noneX_n, kAug_add, kAug_sub, Isa, MkT, comp_eq, for_eq, lst_eq_nil, BEq.rfl, a1, a2, Tri]
  rfl
theorem line_small {o p : Rule} {R C x0 y0 sx sy lo hi : Int} (hR : 1 ≤ R ∧ R ≤ 1000000000000000) (hC : 1 ≤ C ∧ C ≤ 1000000000000000) (h : sameLine o p R C = some (x0, y0, sx, sy, lo, hi)) (h0 : sameAB o p R C = false) : (sx.natAbs < 2 ^ 1000 ∧ sy.natAbs < 2 ^ 1000) ∧ lo.natAbs < 2 ^ 1000 ∧ hi.natAbs < 2 ^ 1000 := by
  have po := part_small (r := o) hR hC
  have pp := part_small (r := p) hR hC
  have hA : B110 (pA o R C - pA p R C) := b110_of (by omega)
  have hB : B110 (pB o R C - pB p R C) := b110_of (by omega)
  have hD : (pC p R C - pC o R C).natAbs < 2 ^ 110 := b110_of (by omega)
  unfold sameLine lineV at h
  obtain ⟨⟨d, l, r⟩, hc, h⟩ := Option.bind_eq_some_iff.mp h
  have sm := comb_small (by decide) hA hB hc
  obtain ⟨g1, g2, g3, g4⟩ := comb_good hc
  simp only at h
  split at h
  · split at h
    · cases h
    · cases h
      by_cases hd0 : d = 0
      · exfalso
        subst hd0
        rw [Int.zero_dvd] at g3 g4
        unfold sameAB at h0
        have e1 : pA o R C = pA p R C := by omega
        have e2 : pB o R C = pB p R C := by omega
        simp [e1, e2] at h0
      · have q := Nat.lt_of_le_of_lt (fdiv_abs (a := pC p R C - pC o R C) hd0) hD
        have q1 := Nat.lt_of_le_of_lt (fdiv_abs (a := pA o R C - pA p R C) hd0) hA
        have q2 := Nat.lt_of_le_of_lt (fdiv_abs (a := pB o R C - pB p R C) hd0) hB
        have x1 : (l * (pC p R C - pC o R C).fdiv d).natAbs < 2 ^ 800 := by
          rw [Int.natAbs_mul]
          exact Nat.lt_of_le_of_lt (Nat.mul_le_mul (Nat.le_of_lt sm.1) (Nat.le_of_lt q)) (by decide +kernel)
        have x2 : (r * (pC p R C - pC o R C).fdiv d).natAbs < 2 ^ 800 := by
          rw [Int.natAbs_mul]
          exact Nat.lt_of_le_of_lt (Nat.mul_le_mul (Nat.le_of_lt sm.2) (Nat.le_of_lt q)) (by decide +kernel)
        have rr : R.natAbs < 2 ^ 110 := b110_of (by omega)
        have cc : C.natAbs < 2 ^ 110 := b110_of (by omega)
        have s1 := span_small (s := (pB o R C - pB p R C).fdiv d) x1 rr
        have s2 := span_small (s := -((pA o R C - pA p R C).fdiv d)) x2 cc
        have p9 : (2 : Nat) ^ 900 ≤ 2 ^ 1000 := Nat.pow_le_pow_right (by decide) (by decide)
        refine ⟨⟨p110 q2, by rw [Int.natAbs_neg]; exact p110 q1⟩, ?_, ?_⟩
        · rcases Int.le_total (spanV (l * (pC p R C - pC o R C).fdiv d) ((pB o R C - pB p R C).fdiv d) R).1 (spanV (r * (pC p R C - pC o R C).fdiv d) (-((pA o R C - pA p R C).fdiv d)) C).1 with z | z
          · rw [Int.max_eq_right z]; exact Nat.lt_of_lt_of_le s2.1 p9
          · rw [Int.max_eq_left z]; exact Nat.lt_of_lt_of_le s1.1 p9
        · rcases Int.le_total (spanV (l * (pC p R C - pC o R C).fdiv d) ((pB o R C - pB p R C).fdiv d) R).2 (spanV (r * (pC p R C - pC o R C).fdiv d) (-((pA o R C - pA p R C).fdiv d)) C).2 with z | z
          · rw [Int.min_eq_left z]; exact Nat.lt_of_lt_of_le s1.2 p9
          · rw [Int.min_eq_right z]; exact Nat.lt_of_lt_of_le s2.2 p9
  · cases h
structure FixT (tab : Str → Option Def) : Prop where
  index : tab "index_of" = some d_index_of
  parts : tab "parts_of" = some d_parts_of
  comb : tab "combined" = some d_combined
  span : tab "span" = some d_span
  steps : tab "steps_within" = some d_steps_within
  line : tab "same_line" = some d_same_line
  eq : tab "is_equal" = some d_is_equal
  count : tab "count_same" = some d_count_same
  first : tab "first_same" = some d_first_same
theorem count_same (T : FixT tab) {o p : Rule} {R C : Int} (hR : 1 ≤ R ∧ R ≤ 1000000000000000) (hC : 1 ≤ C ∧ C ≤ 1000000000000000) :
    callN cst turns tab (k + 211) "count_same" [ruleD o, ruleD p, sizeD R C] st = some (.int (countV o p R C), st) := by
  have bR := big_of (x := R) (by omega) (by omega)
  have bC := big_of (x := C) (by omega) (by omega)
  have hmul : binD .Mult (.int R) (.int C) st = some (.int (R * C), st) := mult_ok (lt900 (Int.le_of_lt bR.1) bR.2) (lt900 (Int.le_of_lt bC.1) bC.2)
  have a0 : callN cst turns tab (k + 210) "is_equal" [ruleD o, ruleD p, sizeD R C] st = some (.bl (sameP o p R C), st) := is_equal (k := k + 207) T.eq T.parts T.index hR hC
  have a1 : callN cst turns tab (k + 210) "parts_of" [ruleD o, sizeD R C] st = some (.tup [.int (pA o R C), .int (pB o R C), .int (pC o R C)], st) := parts_of (k := k + 208) T.parts T.index hR hC
  have a2 : callN cst turns tab (k + 210) "parts_of" [ruleD p, sizeD R C] st = some (.tup [.int (pA p R C), .int (pB p R C), .int (pC p R C)], st) := parts_of (k := k + 208) T.parts T.index hR hC
  rw [call_eq T.count rfl]
  unfold countV
  by_cases h1 : sameP o p R C = true
  · rw [if_pos h1]
    rw [h1] at a0
    simp only [d_count_same, List.map_cons, List.map_nil, List.length_cons, List.length_nil, Nat.reduceAdd, Nat.reduceSub, Nat.reduceLT, List.replicate, List.cons_append, List.nil_append, Go, Ev1, Ev2, Ev3, Ex1, Ex2, Pl, Val1, set_name, kSet_name, kSet_tup, stTs_name, stTs_nil, setAll_cons, evl_cons, Sx, List.getElem?_cons_zero, List.getElem?_cons_succ, List.set_cons_zero, List.set_cons_succ, Option.map_some, Option.bind_some, decide_eq_true_eq, if_true, if_false, Bool.false_eq_true, asO_some, asO_no, noneX_t, noneX_i, noneX_v, noneX_n, kAug_add, kAug_sub, Isa, MkT, comp_eq, for_eq, lst_eq_nil, BEq.rfl, RuleE, a0, hmul]
  · rw [if_neg h1]
    rw [Bool.not_eq_true] at h1
    rw [h1] at a0
    have ab : (pA o R C == pA p R C && pB o R C == pB p R C) = sameAB o p R C := rfl
    by_cases h2 : sameAB o p R C = true
    · rw [if_pos h2]
      rw [h2] at ab
      simp only [d_count_same, List.map_cons, List.map_nil, List.length_cons, List.length_nil, Nat.reduceAdd, Nat.reduceSub, Nat.reduceLT, List.replicate, List.cons_append, List.nil_append, Go, Ev1, Ev2, Ev3, Ex1, Ex2, Pl, Val1, set_name, kSet_name, kSet_tup, stTs_name, stTs_nil, setAll_cons, evl_cons, Sx, List.getElem?_cons_zero, List.getElem?_cons_succ, List.set_cons_zero, List.set_cons_succ, Option.map_some, Option.bind_some, decide_eq_true_eq, if_true, if_false, Bool.false_eq_true, asO_some, asO_no, noneX_t, noneX_i, noneX_v, noneX_n, kAug_add, kAug_sub, Isa, MkT, comp_eq, for_eq, lst_eq_nil, BEq.rfl, RuleE, a0, a1, a2, Tri, ab]
    · rw [if_neg h2]
      rw [Bool.not_eq_true] at h2
      rw [h2] at ab
      have a3 : callN cst turns tab (k + 210) "same_line" [ruleD o, ruleD p, sizeD R C] st = some (lineD (sameLine o p R C), st) := same_line (k := k) T.line T.parts T.comb T.span T.steps T.index hR hC h2
      cases hl : sameLine o p R C with
      | none =>
        rw [hl] at a3
        have a3 : callN cst turns tab (k + 210) "same_line" [ruleD o, ruleD p, sizeD R C] st = some (.non, st) := a3
        simp only [d_count_same, List.map_cons, List.map_nil, List.length_cons, List.length_nil, Nat.reduceAdd, Nat.reduceSub, Nat.reduceLT, List.replicate, List.cons_append, List.nil_append, Go, Ev1, Ev2, Ev3, Ex1, Ex2, Pl, Val1, set_name, kSet_name, kSet_tup, stTs_name, stTs_nil, setAll_cons, evl_cons, Sx, List.getElem?_cons_zero, List.getElem?_cons_succ, List.set_cons_zero, List.set_cons_succ, Option.map_some, Option.bind_some, decide_eq_true_eq, if_true, if_false, Bool.false_eq_true, asO_some, asO_no, noneX_t, noneX_i, noneX_v, noneX_n, kAug_add, kAug_sub, Isa, MkT, comp_eq, for_eq, lst_eq_nil, BEq.rfl, RuleE, a0, a1, a2, Tri, ab, a3, Q.isNon]
      | some v =>
        obtain ⟨x0, y0, sx, sy, lo, hi⟩ := v
        rw [hl] at a3
        have a3 : callN cst turns tab (k + 210) "same_line" [ruleD o, ruleD p, sizeD R C] st = some (.tup [.int x0, .int y0, .int sx, .int sy, .int lo, .int hi], st) := a3
        have n4 : atI [D.int x0, .int y0, .int sx, .int sy, .int lo, .int hi] 4 = some (.int lo) := rfl
        have n5 : atI [D.int x0, .int y0, .int sx, .int sy, .int lo, .int hi] 5 = some (.int hi) := rfl
        simp only [d_count_same, List.map_cons, List.map_nil, List.length_cons, List.length_nil, Nat.reduceAdd, Nat.reduceSub, Nat.reduceLT, List.replicate, List.cons_append, List.nil_append, Go, Ev1, Ev2, Ev3, Ex1, Ex2, Pl, Val1, set_name, kSet_name, kSet_tup, stTs_name, stTs_nil, setAll_cons, evl_cons, Sx, List.getElem?_cons_zero, List.getElem?_cons_succ, List.set_cons_zero, List.set_cons_succ, Option.map_some, Option.bind_some, decide_eq_true_eq, if_true, if_false, Bool.false_eq_true, asO_some, asO_no, noneX_t, noneX_i, noneX_v, noneX_n, kAug_add, kAug_sub, Isa, MkT, comp_eq, for_eq, lst_eq_nil, BEq.rfl, RuleE, a0, a1, a2, Tri, ab, a3, Q.isNon, n4, n5]
def optD : Option Int → D
  | none => .non
  | some i => .int i
theorem first_same (T : FixT tab) {o p : Rule} {R C : Int} (hR : 1 ≤ R ∧ R ≤ 1000000000000000) (hC : 1 ≤ C ∧ C ≤ 1000000000000000) :
    callN cst turns tab (k + 211) "first_same" [ruleD o, ruleD p, sizeD R C] st = some (optD (firstV o p R C), st) := by
  have bR := big_of (x := R) (by omega) (by omega)
  have bC := big_of (x := C) (by omega) (by omega)
  have a0 : callN cst turns tab (k + 210) "is_equal" [ruleD o, ruleD p, sizeD R C] st = some (.bl (sameP o p R C), st) := is_equal (k := k + 207) T.eq T.parts T.index hR hC
  have a1 : callN cst turns tab (k + 210) "parts_of" [ruleD o, sizeD R C] st = some (.tup [.int (pA o R C), .int (pB o R C), .int (pC o R C)], st) := parts_of (k := k + 208) T.parts T.index hR hC
  have a2 : callN cst turns tab (k + 210) "parts_of" [ruleD p, sizeD R C] st = some (.tup [.int (pA p R C), .int (pB p R C), .int (pC p R C)], st) := parts_of (k := k + 208) T.parts T.index hR hC
  rw [call_eq T.first rfl]
  unfold firstV
  by_cases h1 : sameP o p R C = true
  · rw [if_pos h1]
    rw [h1] at a0
    simp only [d_first_same, List.map_cons, List.map_nil, List.length_cons, List.length_nil, Nat.reduceAdd, Nat.reduceSub, Nat.reduceLT, List.replicate, List.cons_append, List.nil_append, Go, Ev1, Ev2, Ev3, Ex1, Ex2, Pl, Val1, set_name, kSet_name, kSet_tup, stTs_name, stTs_nil, setAll_cons, evl_cons, Sx, List.getElem?_cons_zero, List.getElem?_cons_succ, List.set_cons_zero, List.set_cons_succ, Option.map_some, Option.bind_some, decide_eq_true_eq, if_true, if_false, Bool.false_eq_true, asO_some, asO_no, noneX_t, noneX_i, noneX_v, noneX_n, kAug_add, kAug_sub, Isa, MkT, comp_eq, for_eq, lst_eq_nil, BEq.rfl, RuleE, a0]
    rfl
  · rw [if_neg h1]
    rw [Bool.not_eq_true] at h1
    rw [h1] at a0
    have ab : (pA o R C == pA p R C && pB o R C == pB p R C) = sameAB o p R C := rfl
    by_cases h2 : sameAB o p R C = true
    · rw [if_pos h2]
      rw [h2] at ab
      simp only [d_first_same, List.map_cons, List.map_nil, List.length_cons, List.length_nil, Nat.reduceAdd, Nat.reduceSub, Nat.reduceLT, List.replicate, List.cons_append, List.nil_append, Go, Ev1, Ev2, Ev3, Ex1, Ex2, Pl, Val1, set_name, kSet_name, kSet_tup, stTs_name, stTs_nil, setAll_cons, evl_cons, Sx, List.getElem?_cons_zero, List.getElem?_cons_succ, List.set_cons_zero, List.set_cons_succ, Option.map_some, Option.bind_some, decide_eq_true_eq, if_true, if_false, Bool.false_eq_true, asO_some, asO_no, noneX_t, noneX_i, noneX_v, noneX_n, kAug_add, kAug_sub, Isa, MkT, comp_eq, for_eq, lst_eq_nil, BEq.rfl, RuleE, a0, a1, a2, Tri, ab, Bool.not_true, Q.isNon]
      rfl
    · rw [if_neg h2]
      rw [Bool.not_eq_true] at h2
      rw [h2] at ab
      have a3 : callN cst turns tab (k + 210) "same_line" [ruleD o, ruleD p, sizeD R C] st = some (lineD (sameLine o p R C), st) := same_line (k := k) T.line T.parts T.comb T.span T.steps T.index hR hC h2
      cases hl : sameLine o p R C with
      | none =>
        rw [hl] at a3
        have a3 : callN cst turns tab (k + 210) "same_line" [ruleD o, ruleD p, sizeD R C] st = some (.non, st) := a3
        simp only [d_first_same, List.map_cons, List.map_nil, List.length_cons, List.length_nil, Nat.reduceAdd, Nat.reduceSub, Nat.reduceLT, List.replicate, List.cons_append, List.nil_append, Go, Ev1, Ev2, Ev3, Ex1, Ex2, Pl, Val1, set_name, kSet_name, kSet_tup, stTs_name, stTs_nil, setAll_cons, evl_cons, Sx, List.getElem?_cons_zero, List.getElem?_cons_succ, List.set_cons_zero, List.set_cons_succ, Option.map_some, Option.bind_some, decide_eq_true_eq, if_true, if_false, Bool.false_eq_true, asO_some, asO_no, noneX_t, noneX_i, noneX_v, noneX_n, kAug_add, kAug_sub, Isa, MkT, comp_eq, for_eq, lst_eq_nil, BEq.rfl, RuleE, a0, a1, a2, Tri, ab, a3, Q.isNon, Bool.not_false]
        rfl
      | some v =>
        obtain ⟨x0, y0, sx, sy, lo, hi⟩ := v
        have sm := line_small hR hC hl h2
        have h0 : pA o R C - pA p R C ≠ 0 ∨ pB o R C - pB p R C ≠ 0 := by
          by_cases e1 : pA o R C = pA p R C
          · refine .inr fun e2 => ?_
            have e3 : pB o R C = pB p R C := by omega
            rw [e1, e3] at ab
            simp at ab
          · exact .inl (by omega)
        have po := part_small (r := o) hR hC
        have pp := part_small (r := p) hR hC
        have sB : (pB o R C - pB p R C).natAbs < 2 ^ 102 := by
          have : (2 : Int) * 1000000000000000000000000000000 < ((2 ^ 102 : Nat) : Int) := by decide +kernel
          omega
        have L := line_iff (D := pC p R C - pC o R C) sB h0 hR.2 hC.2
        have lh := line_step h0 hl
        have on : ∀ t, lo ≤ t → t ≤ hi → onD R C (x0 + sx * t, y0 + sy * t) := fun t h1 h2 => ((L _ _).mpr ⟨x0, y0, sx, sy, lo, hi, hl, t, h1, h2, rfl, rfl⟩).1
        have m : ∀ a b : Int, a.natAbs < 2 ^ 1000 → b.natAbs < 2 ^ 1000 → binD .Mult (.int a) (.int b) st = some (.int (a * b), st) := fun a b h1 h2 => mult_ok h1 h2
        have io : ∀ t, lo ≤ t → t ≤ hi → callN cst turns tab (k + 210) "index_of" [ruleD o, sizeD R C, .tup [.int (x0 + sx * t), .int (y0 + sy * t)]] st = some (.int (numV o R C (x0 + sx * t, y0 + sy * t)), st) := fun t h1 h2 => by
          have q := on t h1 h2
          obtain ⟨⟨q1, q2⟩, q3, q4⟩ := q
          simp only at q1 q2 q3 q4
          exact index_of (k := k + 209) (p := (x0 + sx * t, y0 + sy * t)) T.index bR bC (big_in (by simp only; omega) (by simp only; omega)) (big_in (by simp only; omega) (by simp only; omega))
        have io1 := io lo (Int.le_refl _) lh.1
        have io2 := io hi lh.1 (Int.le_refl _)
        rw [hl] at a3
        have a3 : callN cst turns tab (k + 210) "same_line" [ruleD o, ruleD p, sizeD R C] st = some (.tup [.int x0, .int y0, .int sx, .int sy, .int lo, .int hi], st) := a3
        simp only [d_first_same, List.map_cons, List.map_nil, List.length_cons, List.length_nil, Nat.reduceAdd, Nat.reduceSub, Nat.reduceLT, List.replicate, List.cons_append, List.nil_append, Go, Ev1, Ev2, Ev3, Ex1, Ex2, Pl, Val1, set_name, kSet_name, kSet_tup, stTs_name, stTs_nil, setAll_cons, evl_cons, Sx, List.getElem?_cons_zero, List.getElem?_cons_succ, List.set_cons_zero, List.set_cons_succ, Option.map_some, Option.bind_some, decide_eq_true_eq, if_true, if_false, Bool.false_eq_true, asO_some, asO_no, noneX_t, noneX_i, noneX_v, noneX_n, kAug_add, kAug_sub, Isa, MkT, comp_eq, for_eq, lst_eq_nil, BEq.rfl, RuleE, a0, a1, a2, Tri, ab, a3, Q.isNon, Bool.not_false, Lp, one1_name, wipeE, m sx lo sm.1.1 sm.2.1, m sy lo sm.1.2 sm.2.1, m sx hi sm.1.1 sm.2.2, m sy hi sm.1.2 sm.2.2, io1, io2]
        rfl
end
end QL

/-! QPerm: a map done again and again. -/
namespace QL
open PySem PySem.Spec L2 Q
def iter (g : Int → Int) : Nat → Int → Int
  | 0, i => i
  | t + 1, i => g (iter g t i)
theorem iter_add (g : Int → Int) (s t : Nat) (i : Int) : iter g (s + t) i = iter g s (iter g t i) := by
  induction s with
  | zero => rw [Nat.zero_add]; rfl
  | succ s ih => rw [Nat.succ_add]; show g (iter g (s + t) i) = g (iter g s (iter g t i)); rw [ih]
theorem iter_mul {g : Int → Int} {k : Nat} {i : Int} (h : iter g k i = i) (m : Nat) : iter g (k * m) i = i := by
  induction m with
  | zero => rfl
  | succ m ih => rw [Nat.mul_succ, iter_add, h, ih]
theorem iter_dvd {g : Int → Int} {k t : Nat} {i : Int} (hk : 0 < k) (h : iter g k i = i) (hm : ∀ j, 0 < j → j < k → iter g j i ≠ i) : iter g t i = i ↔ k ∣ t := by
  constructor
  · intro ht
    have e : t = t % k + k * (t / k) := (Nat.mod_add_div t k).symm
    rw [e, iter_add, iter_mul h] at ht
    by_cases h0 : t % k = 0
    · exact Nat.dvd_of_mod_eq_zero h0
    · exact absurd ht (hm _ (Nat.pos_of_ne_zero h0) (Nat.mod_lt _ hk))
  · rintro ⟨m, rfl⟩
    exact iter_mul h m
theorem lcm_iff {F k d l r t : Int} (e : d = F * l + k * r) (hd : 0 < d) (h1 : d ∣ F) (h2 : d ∣ k) : F.fdiv d * k ∣ t ↔ F ∣ t ∧ k ∣ t := by
  rw [Int.fdiv_eq_ediv_of_nonneg _ (Int.le_of_lt hd)]
  obtain ⟨f, rfl⟩ := h1
  obtain ⟨c, rfl⟩ := h2
  have hd0 : d ≠ 0 := by omega
  rw [Int.mul_ediv_cancel_left _ hd0]
  have one : f * l + c * r = 1 := by
    have q : d * (f * l + c * r) = d * 1 := by
      rw [Int.mul_add, ← Int.mul_assoc, ← Int.mul_assoc, Int.mul_one]; exact e.symm
    exact Int.eq_of_mul_eq_mul_left hd0 q
  constructor
  · rintro ⟨m, rfl⟩
    exact ⟨⟨c * m, by simp only [Int.mul_assoc, Int.mul_comm, Int.mul_left_comm]⟩, ⟨f * m, by simp only [Int.mul_assoc, Int.mul_comm, Int.mul_left_comm]⟩⟩
  · rintro ⟨⟨a, rfl⟩, ⟨b, h⟩⟩
    have h' : f * a = c * b := by
      refine Int.eq_of_mul_eq_mul_left hd0 ?_
      rw [← Int.mul_assoc, ← Int.mul_assoc]; exact h
    -- a = c * (l b + r a)
    refine ⟨l * b + r * a, ?_⟩
    have ea : a = c * (l * b + r * a) := by
      have : a = (f * l + c * r) * a := by rw [one, Int.one_mul]
      conv => lhs; rw [this]
      rw [Int.add_mul, Int.mul_add]
      have e1 : f * l * a = c * (l * b) := by
        rw [Int.mul_right_comm, h']
        simp only [Int.mul_assoc, Int.mul_comm, Int.mul_left_comm]
      have e2 : c * r * a = c * (r * a) := Int.mul_assoc _ _ _
      omega
    conv => lhs; rw [ea]
    simp only [Int.mul_assoc, Int.mul_comm, Int.mul_left_comm]
/-- the map keeps 0 .. N and no two go to one -/
structure Perm (g : Int → Int) (N : Int) : Prop where
  on : ∀ i, 0 ≤ i → i < N → 0 ≤ g i ∧ g i < N
  inj : ∀ i j, 0 ≤ i → i < N → 0 ≤ j → j < N → g i = g j → i = j
theorem Perm.it {g : Int → Int} {N : Int} (P : Perm g N) {i : Int} (h : 0 ≤ i ∧ i < N) (t : Nat) : 0 ≤ iter g t i ∧ iter g t i < N := by
  induction t with
  | zero => exact h
  | succ t ih => exact P.on _ ih.1 ih.2
theorem Perm.back {g : Int → Int} {N : Int} (P : Perm g N) {i : Int} (h : 0 ≤ i ∧ i < N) : ∀ {s t : Nat}, s ≤ t → iter g s i = iter g t i → iter g (t - s) i = i
  | 0, t, _, e => e.symm
  | s + 1, t, hs, e => by
    obtain ⟨t, rfl⟩ : ∃ t', t = t' + 1 := ⟨t - 1, by omega⟩
    have a := P.it h s
    have b := P.it h t
    have q := P.inj _ _ a.1 a.2 b.1 b.2 e
    have := Perm.back P h (s := s) (t := t) (by omega) q
    rw [show t + 1 - (s + 1) = t - s by omega]
    exact this
theorem nodup_le {l : List Int} {N : Int} (hd : l.Nodup) (h : ∀ x ∈ l, 0 ≤ x ∧ x < N) : (l.length : Int) ≤ N ∨ l = [] := by
  by_cases h0 : l = []
  · exact .inr h0
  · left
    have q := same_len (l := l) (m := ((List.range N.toNat).map fun (i : Nat) => (i : Int)).filter fun x => decide (x ∈ l)) hd ((List.pairwise_map.mpr (List.nodup_range.imp fun {a b} hn e => hn (by omega))).filter _) fun x => by
      rw [List.mem_filter, List.mem_map, decide_eq_true_eq]
      constructor
      · intro hx
        have := h x hx
        exact ⟨⟨x.toNat, List.mem_range.mpr (by omega), by omega⟩, hx⟩
      · exact fun z => z.2
    have l2 := List.length_filter_le (fun x => decide (x ∈ l)) ((List.range N.toNat).map fun (i : Nat) => (i : Int))
    rw [List.length_map, List.length_range] at l2
    obtain ⟨x, hx⟩ := List.exists_mem_of_ne_nil l h0
    have := h x hx
    omega
/-- the way from i on -/
def way (g : Int → Int) (i : Int) (j : Nat) : List Int := (List.range j).map fun t => iter g t i
theorem way_succ {g : Int → Int} {i : Int} {j : Nat} : way g i (j + 1) = way g i j ++ [iter g j i] := by
  unfold way
  rw [List.range_succ, List.map_append]; rfl
theorem way_mem {g : Int → Int} {i x : Int} {j : Nat} : x ∈ way g i j ↔ ∃ t, t < j ∧ iter g t i = x := by
  unfold way
  rw [List.mem_map]
  constructor
  · rintro ⟨t, h1, h2⟩; exact ⟨t, List.mem_range.mp h1, h2⟩
  · rintro ⟨t, h1, h2⟩; exact ⟨t, List.mem_range.mpr h1, h2⟩
/-- what stands in the dict of the seen ones -/
structure Seen (g : Int → Int) (N : Int) (keys : List Int) : Prop where
  nd : keys.Nodup
  on : ∀ x ∈ keys, 0 ≤ x ∧ x < N
  cl : ∀ x, 0 ≤ x → x < N → (x ∈ keys ↔ g x ∈ keys)
theorem Seen.it {g : Int → Int} {N : Int} {keys : List Int} (P : Perm g N) (S : Seen g N keys) {i : Int} (h : 0 ≤ i ∧ i < N) (t : Nat) : iter g t i ∈ keys ↔ i ∈ keys := by
  induction t with
  | zero => exact Iff.rfl
  | succ t ih =>
    have a := P.it h t
    exact (S.cl _ a.1 a.2).symm.trans ih
/-- on the way, before it comes back -/
structure OnWay (g : Int → Int) (N : Int) (keys : List Int) (i : Int) (j : Nat) : Prop where
  nd : (keys ++ way g i j).Nodup
theorem way_stop {g : Int → Int} {N : Int} {keys : List Int} {i : Int} {j : Nat} (P : Perm g N) (S : Seen g N keys) (h : 0 ≤ i ∧ i < N) (hi : i ∉ keys) (W : OnWay g N keys i j) (hm : iter g j i ∈ keys ++ way g i j) : 0 < j ∧ iter g j i = i ∧ (∀ t, 0 < t → t < j → iter g t i ≠ i) := by
  rcases List.mem_append.mp hm with hk | hw
  · exact absurd ((S.it P h j).mp hk) hi
  · obtain ⟨s, hs, e⟩ := way_mem.mp hw
    have nw : (way g i j).Nodup := (List.nodup_append.mp W.nd).2.1
    have inj : ∀ a b : Nat, a < j → b < j → iter g a i = iter g b i → a = b := fun a b ha hb e => by
      have e1 : (way g i j)[a]? = some (iter g a i) := by unfold way; rw [List.getElem?_map, List.getElem?_range ha]; rfl
      have e2 : (way g i j)[b]? = some (iter g b i) := by unfold way; rw [List.getElem?_map, List.getElem?_range hb]; rfl
      obtain ⟨l1, q1⟩ := List.getElem?_eq_some_iff.mp e1
      obtain ⟨l2, q2⟩ := List.getElem?_eq_some_iff.mp e2
      exact (List.getElem_inj nw).mp (q1.trans (e.trans q2.symm))
    have b := P.back h (by omega : s ≤ j) e
    have s0 : s = 0 := by
      by_cases z : s = 0
      · exact z
      · have := inj (j - s) 0 (by omega) (by omega) b
        omega
    subst s0
    refine ⟨by omega, e.symm, fun t h1 h2 h3 => ?_⟩
    have := inj t 0 h2 (by omega) h3
    omega
theorem way_go {g : Int → Int} {N : Int} {keys : List Int} {i : Int} {j : Nat} (W : OnWay g N keys i j) (hm : iter g j i ∉ keys ++ way g i j) : OnWay g N keys i (j + 1) := by
  refine ⟨?_⟩
  rw [way_succ, ← List.append_assoc, List.nodup_append]
  refine ⟨W.nd, by simp, fun a ha b hb e => ?_⟩
  have : b = iter g j i := by simpa using hb
  subst this; subst e
  exact hm ha
theorem way_len {g : Int → Int} {N : Int} {keys : List Int} {i : Int} {j : Nat} (P : Perm g N) (S : Seen g N keys) (h : 0 ≤ i ∧ i < N) (W : OnWay g N keys i j) : ((keys.length + j : Nat) : Int) ≤ N := by
  have q := nodup_le W.nd fun x hx => by
    rcases List.mem_append.mp hx with hx | hx
    · exact S.on x hx
    · obtain ⟨t, _, e⟩ := way_mem.mp hx
      rw [← e]; exact P.it h t
  rcases q with q | q
  · rw [List.length_append] at q
    unfold way at q
    rw [List.length_map, List.length_range] at q
    exact q
  · have := congrArg List.length q
    rw [List.length_append] at this
    unfold way at this
    rw [List.length_map, List.length_range] at this
    simp only [List.length_nil] at this
    omega
/-- a whole round is seen -/
theorem Seen.round {g : Int → Int} {N : Int} {keys : List Int} {i : Int} {k : Nat} (P : Perm g N) (S : Seen g N keys) (h : 0 ≤ i ∧ i < N) (hi : i ∉ keys) (W : OnWay g N keys i k) (hk : 0 < k) (e : iter g k i = i) : Seen g N (keys ++ way g i k) := by
  refine ⟨W.nd, fun x hx => ?_, fun x h1 h2 => ?_⟩
  · rcases List.mem_append.mp hx with hx | hx
    · exact S.on x hx
    · obtain ⟨t, _, e⟩ := way_mem.mp hx
      rw [← e]; exact P.it h t
  · rw [List.mem_append, List.mem_append, S.cl x h1 h2]
    refine or_congr Iff.rfl ⟨fun hx => ?_, fun hx => ?_⟩
    · obtain ⟨t, ht, rfl⟩ := way_mem.mp hx
      by_cases z : t + 1 = k
      · refine way_mem.mpr ⟨0, hk, ?_⟩
        show i = g (iter g t i)
        exact e.symm.trans (by rw [← z]; rfl)
      · exact way_mem.mpr ⟨t + 1, by omega, rfl⟩
    · obtain ⟨t, ht, ex⟩ := way_mem.mp hx
      cases t with
      | zero =>
        refine way_mem.mpr ⟨k - 1, by omega, ?_⟩
        have a := P.it h (k - 1)
        refine P.inj _ _ a.1 a.2 h1 h2 ?_
        rw [← ex]
        show iter g (k - 1 + 1) i = i
        rw [show k - 1 + 1 = k by omega, e]
      | succ t =>
        refine way_mem.mpr ⟨t, by omega, ?_⟩
        have a := P.it h t
        exact P.inj _ _ a.1 a.2 h1 h2 ex
/-- what found says of the seen ones -/
def Says (g : Int → Int) (keys : List Int) (F : Int) : Prop := 1 ≤ F ∧ ∀ t : Nat, F ∣ (t : Int) ↔ ∀ x ∈ keys, iter g t x = x
theorem Says.round {g : Int → Int} {N : Int} {keys : List Int} {i F d l r : Int} {k : Nat} (P : Perm g N) (Y : Says g keys F) (h : 0 ≤ i ∧ i < N) (hk : 0 < k) (e : iter g k i = i) (hm : ∀ t, 0 < t → t < k → iter g t i ≠ i) (hd : d = F * l + k * r) (hd0 : 0 < d) (h1 : d ∣ F) (h2 : d ∣ (k : Int)) : Says g (keys ++ way g i k) (F.fdiv d * k) := by
  refine ⟨?_, fun t => ?_⟩
  · obtain ⟨f, hf⟩ := h1
    rw [hf, Int.fdiv_eq_ediv_of_nonneg _ (Int.le_of_lt hd0), Int.mul_ediv_cancel_left _ (by omega)]
    have hF := Y.1
    have fp : 0 < f := by
      by_cases z : 0 < f
      · exact z
      · have := Int.mul_nonpos_of_nonneg_of_nonpos (Int.le_of_lt hd0) (show f ≤ 0 by omega)
        omega
    have := Int.mul_pos fp (show (0 : Int) < k by omega)
    omega
  · rw [lcm_iff hd hd0 h1 h2, Y.2 t, Int.natCast_dvd_natCast, ← iter_dvd hk e hm]
    constructor
    · rintro ⟨a, b⟩ x hx
      rcases List.mem_append.mp hx with hx | hx
      · exact a x hx
      · obtain ⟨s, _, rfl⟩ := way_mem.mp hx
        rw [← iter_add, Nat.add_comm, iter_add, b]
    · intro a
      exact ⟨fun x hx => a x (List.mem_append.mpr (.inl hx)), a i (List.mem_append.mpr (.inr (way_mem.mpr ⟨0, hk, rfl⟩)))⟩
end QL

namespace K
open PySem PySem.Spec PyProof.Rows L2
/-! ### the text by places, and its trees -/
def topS (i : Nat) : Stmt := PySem.Challenge.pw_layicons_k23_whole_rounds_of_orders.main.body.getD i (.Pass ⟨0, 0, 0, 0⟩)
def d_cell_at : Q.Def := { name := "cell_at", arity := 3, names := ["rule", "size", "index", "rows", "columns", "row", "column"], body := [.set (.tup [.name 3, .name 4]) (.var 1), .ite (.cmp .Eq (.sub (.var 0) (.int 1)) (.str "rows")) [.par [5, 6] [.bin .FloorDiv (.var 2) (.var 4), .bin .Mod (.var 2) (.var 4)]] [.par [5, 6] [.bin .Mod (.var 2) (.var 3), .bin .FloorDiv (.var 2) (.var 3)]], .set (.name 5) (.ite (.cmp .Eq (.sub (.sub (.var 0) (.int 0)) (.int 0)) (.str "n")) (.var 5) (.bin .Sub (.bin .Sub (.var 3) (.int 1)) (.var 5))), .ret (.tup [.var 5, .ite (.cmp .Eq (.sub (.sub (.var 0) (.int 0)) (.int 1)) (.str "w")) (.var 6) (.bin .Sub (.bin .Sub (.var 4) (.int 1)) (.var 6))])] }
def d_index_of : Q.Def := { name := "index_of", arity := 3, names := ["rule", "size", "place", "rows", "columns", "row", "column"], body := [.set (.tup [.name 3, .name 4]) (.var 1), .set (.name 5) (.ite (.cmp .Eq (.sub (.sub (.var 0) (.int 0)) (.int 0)) (.str "n")) (.sub (.var 2) (.int 0)) (.bin .Sub (.bin .Sub (.var 3) (.int 1)) (.sub (.var 2) (.int 0)))), .set (.name 6) (.ite (.cmp .Eq (.sub (.sub (.var 0) (.int 0)) (.int 1)) (.str "w")) (.sub (.var 2) (.int 1)) (.bin .Sub (.bin .Sub (.var 4) (.int 1)) (.sub (.var 2) (.int 1)))), .ret (.ite (.cmp .Eq (.sub (.var 0) (.int 1)) (.str "rows")) (.bin .Add (.bin .Mult (.var 5) (.var 4)) (.var 6)) (.bin .Add (.bin .Mult (.var 6) (.var 3)) (.var 5)))] }
def d_index_between : Q.Def := { name := "index_between", arity := 4, names := ["one", "other", "size", "index"], body := [.ret (.call "index_of" [.var 1, .var 2, .call "cell_at" [.var 0, .var 2, .var 3]])] }
def d_combined : Q.Def := { name := "combined", arity := 2, names := ["one", "other", "common", "first", "second"], body := [.ite (.cmp .Eq (.var 1) (.int 0)) [.ret (.tup [.bi .abs false [.var 0], .ite (.cmp .GtE (.var 0) (.int 0)) (.int 1) (.neg (.int 1)), .int 0])] [], .set (.tup [.name 2, .name 3, .name 4]) (.call "combined" [.var 1, .bin .Mod (.var 0) (.var 1)]), .ret (.tup [.var 2, .var 4, .bin .Sub (.var 3) (.bin .Mult (.bin .FloorDiv (.var 0) (.var 1)) (.var 4))])] }
def d_order_round : Q.Def := { name := "order_round", arity := 3, names := ["one", "other", "size", "many", "seen", "found", "index", "here", "length"], body := [.par [3, 4, 5] [.bin .Mult (.sub (.var 2) (.int 0)) (.sub (.var 2) (.int 1)), .dct [] [], .int 1], .for_ (.name 6) (.rng1 (.var 3)) [.par [7, 8] [.var 6, .int 0], .while_ (.notInK (.var 7) (.var 4)) [.set (.subK (.var 4) (.var 7)) (.bl true), .par [7, 8] [.call "index_between" [.var 0, .var 1, .var 2, .var 7], .bin .Add (.var 8) (.int 1)]], .ite (.cmp .Gt (.var 8) (.int 0)) [.set (.name 5) (.bin .Mult (.bin .FloorDiv (.var 5) (.sub (.call "combined" [.var 5, .var 8]) (.int 0))) (.var 8))] []], .ret (.var 5)] }
def d_same_order : Q.Def := { name := "same_order", arity := 3, names := ["one", "other", "size", "side"], body := [.ite (.or [.cmp .Eq (.var 2) (.tup [.int 1, .int 1]), .cmp .Eq (.slice (.var 0) (.none_) (.int 2)) (.slice (.var 1) (.none_) (.int 2))]) [.ret (.bl true)] [], .ite (.notIn (.int 1) (.var 2)) [.ret (.bl false)] [], .set (.name 3) (.ite (.cmp .Eq (.sub (.var 2) (.int 0)) (.int 1)) (.int 1) (.int 0)), .ret (.cmp .Eq (.sub (.sub (.var 0) (.int 0)) (.var 3)) (.sub (.sub (.var 1) (.int 0)) (.var 3)))] }
def d_law_draw : Q.Def := { name := "_law_draw", arity := 2, names := ["tape", "many", "prime", "cell", "found"], body := [.set (.name 2) (.int 2305843009213693951), .ite (.cmp .Lt (.sub (.var 0) (.int 2)) (.var 1)) [.set (.name 3) (.int 0), .ite (.cmp .Gt (.bi .len false [.sub (.var 0) (.int 0)]) (.int 0)) [.set (.name 3) (.sub (.sub (.var 0) (.int 0)) (.bin .Mod (.bi .int false [.sub (.var 0) (.int 1)]) (.bi .len false [.sub (.var 0) (.int 0)])))] [], .ite (.or [.cmp .GtE (.sub (.var 0) (.int 1)) (.bi .len false [.sub (.var 0) (.int 0)]), .cmp .Lt (.var 3) (.bin .Pow (.int 10) (.int 18))]) [.set (.name 3) (.bin .Mod (.bi .int false [.bin .Add (.var 3) (.bin .Mult (.int 1000003) (.sub (.var 0) (.int 1)))]) (.var 2)), .set (.name 3) (.bin .Mod (.bi .int false [.bin .Add (.bin .Add (.bin .Mult (.var 3) (.var 3)) (.bin .Mult (.int 1181783497276652981) (.var 3))) (.int 2049848353892358983)]) (.var 2)), .set (.name 3) (.bin .Mod (.bi .int false [.bin .Add (.bin .Mult (.var 3) (.var 3)) (.int 1442695040888963407)]) (.var 2))] [], .set (.sub (.var 0) (.int 1)) (.bin .Add (.sub (.var 0) (.int 1)) (.int 1)), .set (.sub (.var 0) (.int 2)) (.var 3)] [], .set (.name 4) (.bin .Mod (.bi .int false [.sub (.var 0) (.int 2)]) (.var 1)), .set (.sub (.var 0) (.int 2)) (.bin .FloorDiv (.sub (.var 0) (.int 2)) (.var 1)), .ret (.var 4)] }
def d_law_like : Q.Def := { name := "_law_like", arity := 2, names := ["one", "two", "k"], body := [.ite (.isa ["list", "tuple"] (.var 0)) [.ite (.or [.cmp .NotEq (.isa ["list"] (.var 0)) (.isa ["list"] (.var 1)), .cmp .NotEq (.isa ["tuple"] (.var 0)) (.isa ["tuple"] (.var 1))]) [.ret (.bl false)] [], .ite (.cmp .NotEq (.bi .len false [.var 0]) (.bi .len false [.var 1])) [.ret (.bl false)] [], .ret (.cmp .Eq (.comp [("k", 2)] (.name 2) (.rng1 (.bi .len false [.var 0])) (.not (.call "_law_like" [.sub (.var 0) (.var 2), .sub (.var 1) (.var 2)])) (.var 2)) (.lst false []))] [], .ite (.isa ["list", "tuple"] (.var 1)) [.ret (.bl false)] [], .ret (.and [.cmp .Eq (.isa ["bool"] (.var 0)) (.isa ["bool"] (.var 1)), .cmp .Eq (.var 0) (.var 1)])] }
def d_law_rule : Q.Def := { name := "_law_rule", arity := 1, names := ["tape", "corner", "way"], body := [.par [1, 2] [.sub (.lst false [.str "ne", .str "nw", .str "se", .str "sw"]) (.call "_law_draw" [.var 0, .int 4]), .sub (.lst false [.str "columns", .str "rows"]) (.call "_law_draw" [.var 0, .int 2])], .ret (.tup [.var 1, .var 2, .sub (.lst false [.str "next", .str "stay", .str "swap"]) (.call "_law_draw" [.var 0, .int 3]), .cmp .Eq (.call "_law_draw" [.var 0, .int 2]) (.int 0)])] }
def d_law_spot : Q.Def := { name := "_law_spot", arity := 3, names := ["rule", "size", "index", "along", "line", "at", "row", "column"], body := [.set (.name 3) (.ite (.cmp .Eq (.sub (.var 0) (.int 1)) (.str "rows")) (.sub (.var 1) (.int 1)) (.sub (.var 1) (.int 0))), .par [4, 5] [.bin .FloorDiv (.var 2) (.var 3), .bin .Mod (.bi .int false [.var 2]) (.var 3)], .set (.tup [.name 6, .name 7]) (.ite (.cmp .Eq (.sub (.var 0) (.int 1)) (.str "rows")) (.tup [.var 4, .var 5]) (.tup [.var 5, .var 4])), .set (.name 6) (.ite (.mem (.str "s") (.sub (.var 0) (.int 0))) (.bin .Sub (.bin .Sub (.sub (.var 1) (.int 0)) (.int 1)) (.var 6)) (.var 6)), .ret (.tup [.var 6, .ite (.mem (.str "e") (.sub (.var 0) (.int 0))) (.bin .Sub (.bin .Sub (.sub (.var 1) (.int 1)) (.int 1)) (.var 7)) (.var 7)])] }
def d_law_number : Q.Def := { name := "_law_number", arity := 3, names := ["rule", "size", "place", "row", "column"], body := [.set (.name 3) (.ite (.mem (.str "s") (.sub (.var 0) (.int 0))) (.bin .Sub (.bin .Sub (.sub (.var 1) (.int 0)) (.int 1)) (.sub (.var 2) (.int 0))) (.sub (.var 2) (.int 0))), .set (.name 4) (.ite (.mem (.str "e") (.sub (.var 0) (.int 0))) (.bin .Sub (.bin .Sub (.sub (.var 1) (.int 1)) (.int 1)) (.sub (.var 2) (.int 1))) (.sub (.var 2) (.int 1))), .ret (.ite (.cmp .Eq (.sub (.var 0) (.int 1)) (.str "rows")) (.bin .Add (.bin .Mult (.var 3) (.sub (.var 1) (.int 1))) (.var 4)) (.bin .Add (.bin .Mult (.var 4) (.sub (.var 1) (.int 0))) (.var 3)))] }
def d_law : Q.Def := { name := "law", arity := 1, names := ["script", "tape", "turn", "one", "other", "size", "many", "led", "index", "here", "times"], body := [.set (.name 1) (.lst true [.bi .list false [.var 0], .int 0, .int 0]), .for_ (.name 2) (.rng1 (.int 8)) [.set (.tup [.name 3, .name 4]) (.tup [.call "_law_rule" [.var 1], .call "_law_rule" [.var 1]]), .set (.name 5) (.tup [.bin .Add (.int 1) (.call "_law_draw" [.var 1, .int 6]), .bin .Add (.int 1) (.call "_law_draw" [.var 1, .int 6])]), .set (.name 6) (.bin .Mult (.sub (.var 5) (.int 0)) (.sub (.var 5) (.int 1))), .set (.name 7) (.comp [("index", 8)] (.name 8) (.rng1 (.var 6)) (.bl true) (.call "_law_number" [.var 4, .var 5, .call "_law_spot" [.var 3, .var 5, .var 8]])), .par [9, 10] [.slice (.var 7) (.none_) (.none_), .int 1], .while_ (.cmp .NotEq (.var 9) (.lrange false (.var 6))) [.par [9, 10] [.comp [("index", 8)] (.name 8) (.seq (.var 9)) (.bl true) (.sub (.var 7) (.var 8)), .bin .Add (.var 10) (.int 1)]], .ite (.or [.not (.call "_law_like" [.call "order_round" [.var 3, .var 4, .var 5], .var 10]), .cmp .NotEq (.call "order_round" [.var 4, .var 3, .var 5]) (.var 10)]) [.ret (.bl false)] [], .ite (.cmp .NotEq (.cmp .Eq (.var 10) (.int 1)) (.call "same_order" [.var 3, .var 4, .var 5])) [.ret (.bl false)] []], .ret (.cmp .Eq (.call "order_round" [.tup [.str "nw", .str "rows", .str "next", .bl false], .tup [.str "nw", .str "columns", .str "next", .bl false], .tup [.int 2, .int 3]]) (.int 4))] }
def sg : Q.Sig := ⟨[("cell_at", 3), ("index_of", 3), ("index_between", 4), ("combined", 2), ("order_round", 3), ("same_order", 3), ("_law_draw", 2), ("_law_like", 2), ("_law_rule", 1), ("_law_spot", 3), ("_law_number", 3)], []⟩
def tab (f : Str) : Option Q.Def := if f = "cell_at" then some d_cell_at else if f = "index_of" then some d_index_of else if f = "index_between" then some d_index_between else if f = "combined" then some d_combined else if f = "order_round" then some d_order_round else if f = "same_order" then some d_same_order else if f = "_law_draw" then some d_law_draw else if f = "_law_like" then some d_law_like else if f = "_law_rule" then some d_law_rule else if f = "_law_spot" then some d_law_spot else if f = "_law_number" then some d_law_number else if f = "law" then some d_law else none
theorem ok_cell_at : Q.okDef sg d_cell_at (topS 1) ["rule", "size", "index"] = true := by decide +kernel
theorem tab_cell_at : tab "cell_at" = some d_cell_at := rfl
theorem ok_index_of : Q.okDef sg d_index_of (topS 2) ["rule", "size", "place"] = true := by decide +kernel
theorem tab_index_of : tab "index_of" = some d_index_of := rfl
theorem ok_index_between : Q.okDef sg d_index_between (topS 4) ["one", "other", "size", "index"] = true := by decide +kernel
theorem tab_index_between : tab "index_between" = some d_index_between := rfl
theorem ok_combined : Q.okDef sg d_combined (topS 5) ["one", "other"] = true := by decide +kernel
theorem tab_combined : tab "combined" = some d_combined := rfl
theorem ok_order_round : Q.okDef sg d_order_round (topS 6) ["one", "other", "size"] = true := by decide +kernel
theorem tab_order_round : tab "order_round" = some d_order_round := rfl
theorem ok_same_order : Q.okDef sg d_same_order (topS 8) ["one", "other", "size"] = true := by decide +kernel
theorem tab_same_order : tab "same_order" = some d_same_order := rfl
theorem ok_law_draw : Q.okDef sg d_law_draw (topS 10) ["tape", "many"] = true := by decide +kernel
theorem tab_law_draw : tab "_law_draw" = some d_law_draw := rfl
theorem ok_law_like : Q.okDef sg d_law_like (topS 11) ["one", "two"] = true := by decide +kernel
theorem tab_law_like : tab "_law_like" = some d_law_like := rfl
theorem ok_law_rule : Q.okDef sg d_law_rule (topS 12) ["tape"] = true := by decide +kernel
theorem tab_law_rule : tab "_law_rule" = some d_law_rule := rfl
theorem ok_law_spot : Q.okDef sg d_law_spot (topS 13) ["rule", "size", "index"] = true := by decide +kernel
theorem tab_law_spot : tab "_law_spot" = some d_law_spot := rfl
theorem ok_law_number : Q.okDef sg d_law_number (topS 14) ["rule", "size", "place"] = true := by decide +kernel
theorem tab_law_number : tab "_law_number" = some d_law_number := rfl
theorem ok_law : Q.okDef sg d_law (topS 15) ["script"] = true := by decide +kernel
theorem tab_law : tab "law" = some d_law := rfl
end K

namespace K
open PySem PySem.Spec L2 Q QL
abbrev depth : Nat := 60
def turns : Nat := 2000000000000
def cst (_ : Str) : Option Q.D := none
theorem t_draw : tab "_law_draw" = some QL.d_law_draw := rfl
theorem t_like : tab "_law_like" = some QL.d_law_like := rfl
theorem t_rule : tab "_law_rule" = some QL.d_law_rule := rfl
theorem t_spot : tab "_law_spot" = some QL.d_law_spot := rfl
theorem t_number : tab "_law_number" = some QL.d_law_number := rfl
theorem t_between : tab "index_between" = some QL.d_index_between := rfl
theorem t_cell : tab "cell_at" = some QL.d_cell_at := rfl
theorem t_index : tab "index_of" = some QL.d_index_of := rfl
theorem t_comb : tab "combined" = some QL.d_combined := rfl
def seenD (keys : List Int) : List (Key × D) := keys.map fun i => (.inl i, .bl true)
theorem seen_get (keys : List Int) (x : Int) : (dget (seenD keys) (.inl x)).isSome = decide (x ∈ keys) := by
  induction keys with
  | nil => rfl
  | cons k ks ih =>
    unfold dget seenD at *
    rw [List.map_cons, List.find?_cons]
    by_cases h : k = x
    · subst h; simp
    · have e : decide ((Sum.inl k : Key) = Sum.inl x) = false := by simpa using h
      simp only [e]
      rw [ih]
      have : (x ∈ k :: ks) ↔ x ∈ ks := by
        rw [List.mem_cons]
        exact ⟨fun z => z.resolve_left fun e => h e.symm, .inr⟩
      simp only [this]
theorem seen_put {keys : List Int} {x : Int} (h : x ∉ keys) : dput (seenD keys) (.inl x) (.bl true) = seenD (keys ++ [x]) := by
  have e : ((seenD keys).any fun kv => decide (kv.1 = (Sum.inl x : Key))) = false := by
    rw [List.any_eq_false]
    intro kv hkv
    unfold seenD at hkv
    obtain ⟨i, hi, rfl⟩ := List.mem_map.mp hkv
    simp only [decide_eq_true_eq, Sum.inl.injEq]
    exact fun e => h (e ▸ hi)
  unfold dput
  rw [if_neg (by rw [e]; exact Bool.false_ne_true)]
  unfold seenD
  rw [List.map_append]; rfl
theorem get_last {st : Store} {x : SO} : (st ++ [x])[st.length]? = some x := by simp
theorem set_last {st : Store} {x y : SO} : (st ++ [x]).set st.length y = st ++ [y] := by
  rw [List.set_append_right _ _ (Nat.le_refl _), Nat.sub_self]; rfl
theorem ask_seen {st : Store} {keys : List Int} {x : Int} : kNotInK (.int x) (.loc st.length) (st ++ [.dct (seenD keys)]) = some (.bl (!decide (x ∈ keys)), st ++ [.dct (seenD keys)]) := by
  have q : dctOf (st ++ [.dct (seenD keys)]) (.loc st.length) = some (seenD keys) := by simp [dctOf]
  unfold kNotInK
  rw [q]
  show some (D.bl (!(dget (seenD keys) (.inl x)).isSome), _) = _
  rw [seen_get]
theorem put_seen {st : Store} {keys : List Int} {x : Int} (h : x ∉ keys) (hl : keys.length ≤ 1000) : _root_.Q.putK (.loc st.length) (.int x) (.bl true) (st ++ [.dct (seenD keys)]) = some (st ++ [.dct (seenD (keys ++ [x]))]) := by
  unfold _root_.Q.putK
  simp only [get_last, keyOf, Option.bind_some]
  rw [if_pos (by unfold seenD; rw [List.length_map]; exact Nat.lt_of_le_of_lt hl (by decide)), seen_put h, set_last]
theorem perm_of {o p : Rule} {R C : Int} (hR : 0 < R) (hC : 0 < C) : Perm (betweenV o p R C) (R * C) := by
  refine ⟨fun i h1 h2 => ?_, fun i j a1 a2 b1 b2 e => ?_⟩
  · have s := spot_rng (r := o) hR hC h1 h2
    exact num_rng hR hC s.1 s.2
  · have s1 := spot_rng (r := o) hR hC a1 a2
    have s2 := spot_rng (r := o) hR hC b1 b2
    have q1 := spot_num (r := p) hR hC s1.1 s1.2
    have q2 := spot_num (r := p) hR hC s2.1 s2.2
    unfold betweenV at e
    rw [e, q2] at q1
    have n1 := num_spot (r := o) hR hC a1 a2
    have n2 := num_spot (r := o) hR hC b1 b2
    rw [← n1, ← n2, q1]
def wBody : List S := match (bodyOf (d_order_round.body.getD 1 .pass)).getD 1 .pass with
  | .while_ _ b => b
  | _ => []
theorem inner {st : Store} {o p : Rule} {R C F : Int} {a6 : Option D} {keys : List Int} {i : Int} (hR : 1 ≤ R ∧ R ≤ 6) (hC : 1 ≤ C ∧ C ≤ 6) (S : Seen (betweenV o p R C) (R * C) keys) (h : 0 ≤ i ∧ i < R * C) (hi : i ∉ keys) :
    ∀ (n j : Nat), OnWay (betweenV o p R C) (R * C) keys i j → 100 ≤ n + j → ∃ k, 0 < k ∧ iter (betweenV o p R C) k i = i ∧ (∀ t, 0 < t → t < k → iter (betweenV o p R C) t i ≠ i) ∧ OnWay (betweenV o p R C) (R * C) keys i k ∧
      whileLoop (cndW (cx cst turns tab 59) (.notInK (.var 7) (.var 4))) (exL (cx cst turns tab 59) wBody) n [some (ruleD o), some (ruleD p), some (sizeD R C), some (.int (R * C)), some (.loc st.length), some (.int F), a6, some (.int (iter (betweenV o p R C) j i)), some (.int j)] (st ++ [.dct (seenD (keys ++ way (betweenV o p R C) i j))]) =
        some (.next, [some (ruleD o), some (ruleD p), some (sizeD R C), some (.int (R * C)), some (.loc st.length), some (.int F), a6, some (.int i), some (.int k)], st ++ [.dct (seenD (keys ++ way (betweenV o p R C) i k))]) := by
  have P := perm_of (o := o) (p := p) (R := R) (C := C) (by omega) (by omega)
  have hm := mul_le (R := R) (C := C) (a := 6) (b := 6) ⟨by omega, hR.2⟩ ⟨by omega, hC.2⟩
  intro n
  induction n with
  | zero =>
    intro j W hn
    have := way_len P S h W
    omega
  | succ n ih =>
    intro j W hn
    have wl := way_len P S h W
    by_cases hx : iter (betweenV o p R C) j i ∈ keys ++ way (betweenV o p R C) i j
    · obtain ⟨h1, h2, h3⟩ := way_stop P S h hi W hx
      refine ⟨j, h1, h2, h3, W, ?_⟩
      rw [h2] at hx ⊢
      refine while_stop ?_
      unfold cndW
      simp only [List.map_cons, List.map_nil, List.length_cons, List.length_nil, Nat.reduceAdd, Nat.reduceSub, Nat.reduceLT, List.replicate, List.cons_append, List.nil_append, Go, Ev1, Ev2, Ev3, Ex1, Ex2, Pl, Val1, set_name, kSet_name, kSet_tup, stTs_name, stTs_nil, setAll_cons, evl_cons, Sx, List.getElem?_cons_zero, List.getElem?_cons_succ, List.set_cons_zero, List.set_cons_succ, Option.map_some, Option.bind_some, decide_eq_true_eq, if_true, if_false, Bool.false_eq_true, asO_some, asO_no, noneX_t, noneX_i, noneX_v, noneX_n, kAug_add, kAug_sub, Isa, MkT, comp_eq, for_eq, lst_eq_nil, BEq.rfl, Ev4, ask_seen, hx, decide_true, Bool.not_true]
      rfl
    · obtain ⟨k, q1, q2, q3, q4, q5⟩ := ih (j + 1) (way_go W hx) (by omega)
      refine ⟨k, q1, q2, q3, q4, ?_⟩
      rw [← q5]
      have it := P.it h j
      have ib : ∀ st, callN cst turns tab 59 "index_between" [ruleD o, ruleD p, sizeD R C, .int (iter (betweenV o p R C) j i)] st = some (.int (betweenV o p R C (iter (betweenV o p R C) j i)), st) := fun st => index_between (k := 57) t_between t_cell t_index ⟨by omega, by omega⟩ ⟨by omega, by omega⟩ it.1 it.2
      have lw : (keys ++ way (betweenV o p R C) i j).length ≤ 1000 := by
        rw [List.length_append]
        unfold way
        rw [List.length_map, List.length_range]
        omega
      refine while_step (st1 := st ++ [.dct (seenD (keys ++ way (betweenV o p R C) i j))]) ?_ ?_
      · unfold cndW
        simp only [List.map_cons, List.map_nil, List.length_cons, List.length_nil, Nat.reduceAdd, Nat.reduceSub, Nat.reduceLT, List.replicate, List.cons_append, List.nil_append, Go, Ev1, Ev2, Ev3, Ex1, Ex2, Pl, Val1, set_name, kSet_name, kSet_tup, stTs_name, stTs_nil, setAll_cons, evl_cons, Sx, List.getElem?_cons_zero, List.getElem?_cons_succ, List.set_cons_zero, List.set_cons_succ, Option.map_some, Option.bind_some, decide_eq_true_eq, if_true, if_false, Bool.false_eq_true, asO_some, asO_no, noneX_t, noneX_i, noneX_v, noneX_n, kAug_add, kAug_sub, Isa, MkT, comp_eq, for_eq, lst_eq_nil, BEq.rfl, Ev4, ask_seen, hx, decide_false, Bool.not_false]
        rfl
      · simp only [wBody, d_order_round, bodyOf, List.getD_cons_succ, List.getD_cons_zero, List.map_cons, List.map_nil, List.length_cons, List.length_nil, Nat.reduceAdd, Nat.reduceSub, Nat.reduceLT, List.replicate, List.cons_append, List.nil_append, Go, Ev1, Ev2, Ev3, Ex1, Ex2, Pl, Val1, set_name, kSet_name, kSet_tup, stTs_name, stTs_nil, setAll_cons, evl_cons, Sx, List.getElem?_cons_zero, List.getElem?_cons_succ, List.set_cons_zero, List.set_cons_succ, Option.map_some, Option.bind_some, decide_eq_true_eq, if_true, if_false, Bool.false_eq_true, asO_some, asO_no, noneX_t, noneX_i, noneX_v, noneX_n, kAug_add, kAug_sub, Isa, MkT, comp_eq, for_eq, lst_eq_nil, BEq.rfl, put_seen hx lw, ib]
        rw [way_succ, List.append_assoc]
        rfl
theorem way_le {g : Int → Int} {i : Int} {j : Nat} : (way g i j).length = j := by
  unfold way; rw [List.length_map, List.length_range]
/-- one index of the outer loop -/
theorem outer {st : Store} {o p : Rule} {R C F : Int} {a7 a8 : Option D} {keys : List Int} {i : Int} (hR : 1 ≤ R ∧ R ≤ 6) (hC : 1 ≤ C ∧ C ≤ 6) (S : Seen (betweenV o p R C) (R * C) keys) (Y : Says (betweenV o p R C) keys F) (hF : F ≤ 2 ^ keys.length) (h : 0 ≤ i ∧ i < R * C) :
    ∃ keys' F' a7' a8', Seen (betweenV o p R C) (R * C) keys' ∧ Says (betweenV o p R C) keys' F' ∧ F' ≤ 2 ^ keys'.length ∧ (∀ x ∈ keys, x ∈ keys') ∧ i ∈ keys' ∧
      exL (cx cst turns tab 59) (bodyOf (d_order_round.body.getD 1 .pass)) [some (ruleD o), some (ruleD p), some (sizeD R C), some (.int (R * C)), some (.loc st.length), some (.int F), some (.int i), a7, a8] (st ++ [.dct (seenD keys)]) =
        some (.next, [some (ruleD o), some (ruleD p), some (sizeD R C), some (.int (R * C)), some (.loc st.length), some (.int F'), some (.int i), a7', a8'], st ++ [.dct (seenD keys')]) := by
  have P := perm_of (o := o) (p := p) (R := R) (C := C) (by omega) (by omega)
  have hm := mul_le (R := R) (C := C) (a := 6) (b := 6) ⟨by omega, hR.2⟩ ⟨by omega, hC.2⟩
  by_cases hi : i ∈ keys
  · refine ⟨keys, F, some (.int i), some (.int 0), S, Y, hF, fun x hx => hx, hi, ?_⟩
    have w : whileLoop (cndW (cx cst turns tab 59) (.notInK (.var 7) (.var 4))) (exL (cx cst turns tab 59) wBody) turns [some (ruleD o), some (ruleD p), some (sizeD R C), some (.int (R * C)), some (.loc st.length), some (.int F), some (.int i), some (.int i), some (.int 0)] (st ++ [.dct (seenD keys)]) =
        some (.next, [some (ruleD o), some (ruleD p), some (sizeD R C), some (.int (R * C)), some (.loc st.length), some (.int F), some (.int i), some (.int i), some (.int 0)], st ++ [.dct (seenD keys)]) := by
      refine while_stop (n := 1999999999999) ?_
      unfold cndW
      simp only [List.map_cons, List.map_nil, List.length_cons, List.length_nil, Nat.reduceAdd, Nat.reduceSub, Nat.reduceLT, List.replicate, List.cons_append, List.nil_append, Go, Ev1, Ev2, Ev3, Ex1, Ex2, Pl, Val1, set_name, kSet_name, kSet_tup, stTs_name, stTs_nil, setAll_cons, evl_cons, Sx, List.getElem?_cons_zero, List.getElem?_cons_succ, List.set_cons_zero, List.set_cons_succ, Option.map_some, Option.bind_some, decide_eq_true_eq, if_true, if_false, Bool.false_eq_true, asO_some, asO_no, noneX_t, noneX_i, noneX_v, noneX_n, kAug_add, kAug_sub, Isa, MkT, comp_eq, for_eq, lst_eq_nil, BEq.rfl, Ev4, ask_seen, hi, decide_true, Bool.not_true]
      rfl
    simp only [wBody, d_order_round, bodyOf, List.getD_cons_succ, List.getD_cons_zero] at w
    simp only [d_order_round, bodyOf, List.getD_cons_succ, List.getD_cons_zero, List.map_cons, List.map_nil, List.length_cons, List.length_nil, Nat.reduceAdd, Nat.reduceSub, Nat.reduceLT, List.replicate, List.cons_append, List.nil_append, Go, Ev1, Ev2, Ev3, Ex1, Ex2, Pl, Val1, set_name, kSet_name, kSet_tup, stTs_name, stTs_nil, setAll_cons, evl_cons, Sx, List.getElem?_cons_zero, List.getElem?_cons_succ, List.set_cons_zero, List.set_cons_succ, Option.map_some, Option.bind_some, decide_eq_true_eq, if_true, if_false, Bool.false_eq_true, asO_some, asO_no, noneX_t, noneX_i, noneX_v, noneX_n, kAug_add, kAug_sub, Isa, MkT, comp_eq, for_eq, lst_eq_nil, BEq.rfl, ex_whileC, w]
    rfl
  · obtain ⟨k, q1, q2, q3, q4, w⟩ := inner (st := st) (F := F) (a6 := some (.int i)) hR hC S h hi turns 0 ⟨by unfold way; simpa using S.nd⟩ (by decide)
    have kl := way_len P S h q4
    have n1 : keys.length ≤ 36 := by omega
    have p1 : (2 : Int) ^ keys.length ≤ 2 ^ 36 := by
      have := Nat.pow_le_pow_right (show 0 < 2 by decide) n1
      exact_mod_cast this
    have bF : B110 F := b110_of (by have := Y.1; omega)
    have bk : B110 (k : Int) := b110_of (by omega)
    obtain ⟨⟨d, l, r⟩, hc⟩ := comb_all (a := F) (b := (k : Int)) (m := 6) (by omega)
    obtain ⟨g1, g2, g3, g4⟩ := comb_good hc
    have hd : 0 < d := by
      by_cases z : d = 0
      · subst z
        rw [Int.zero_dvd] at g3
        have := Y.1
        omega
      · omega
    have hc' : ∀ st, callN cst turns tab 59 "combined" [.int F, .int k] st = some (.tup [.int d, .int l, .int r], st) := fun st => combined (k := 45) (n := 13) t_comb (by decide) bF bk hc
    have dk : d ≤ k := Int.le_of_dvd (by omega) g4
    have fd : F.fdiv d ≤ F := by
      rw [Int.fdiv_eq_ediv_of_nonneg _ g2]
      exact Int.ediv_le_self _ (by have := Y.1; omega)
    have fd0 : 0 ≤ F.fdiv d := by
      rw [Int.fdiv_eq_ediv_of_nonneg _ g2]
      exact Int.ediv_nonneg (by have := Y.1; omega) g2
    have m1 : ∀ st, binD .Mult (.int (F.fdiv d)) (.int k) st = some (.int (F.fdiv d * k), st) := fun st => mult_ok (p110 (b110_of (by omega))) (p110 bk)
    have hd0 : d ≠ 0 := by omega
    have kp : (0 : Int) < k := by omega
    refine ⟨keys ++ way (betweenV o p R C) i k, F.fdiv d * k, some (.int i), some (.int k), S.round P h hi q4 q1 q2, Y.round P h q1 q2 q3 g1 hd g3 g4, ?_, fun x hx => List.mem_append.mpr (.inl hx), List.mem_append.mpr (.inr (way_mem.mpr ⟨0, q1, rfl⟩)), ?_⟩
    · rw [List.length_append, way_le, Int.pow_add]
      have k2 : (k : Int) ≤ 2 ^ k := by
        have := Nat.lt_two_pow_self (n := k)
        exact_mod_cast Nat.le_of_lt this
      exact Int.mul_le_mul (by omega) k2 (by omega) (by have := Y.1; omega)
    · simp only [wBody, d_order_round, bodyOf, List.getD_cons_succ, List.getD_cons_zero] at w
      have w0 : keys ++ way (betweenV o p R C) i 0 = keys := by unfold way; simp
      rw [w0] at w
      have w : whileLoop _ _ turns [some (ruleD o), some (ruleD p), some (sizeD R C), some (.int (R * C)), some (.loc st.length), some (.int F), some (.int i), some (.int i), some (.int 0)] _ = _ := w
      simp only [d_order_round, bodyOf, List.getD_cons_succ, List.getD_cons_zero, List.map_cons, List.map_nil, List.length_cons, List.length_nil, Nat.reduceAdd, Nat.reduceSub, Nat.reduceLT, List.replicate, List.cons_append, List.nil_append, Go, Ev1, Ev2, Ev3, Ex1, Ex2, Pl, Val1, set_name, kSet_name, kSet_tup, stTs_name, stTs_nil, setAll_cons, evl_cons, Sx, List.getElem?_cons_zero, List.getElem?_cons_succ, List.set_cons_zero, List.set_cons_succ, Option.map_some, Option.bind_some, decide_eq_true_eq, if_true, if_false, Bool.false_eq_true, asO_some, asO_no, noneX_t, noneX_i, noneX_v, noneX_n, kAug_add, kAug_sub, Isa, MkT, comp_eq, for_eq, lst_eq_nil, BEq.rfl, ex_whileC, w, kp, decide_true, hc', fdiv_ok hd0 (p110 (b110_of (by omega))), m1]
def Period (g : Int → Int) (N F : Int) : Prop := (1 ≤ F ∧ F ≤ 2 ^ 36) ∧ ∀ t : Nat, F ∣ (t : Int) ↔ ∀ x, 0 ≤ x → x < N → iter g t x = x
theorem round {st : Store} {o p : Rule} {R C : Int} (hR : 1 ≤ R ∧ R ≤ 6) (hC : 1 ≤ C ∧ C ≤ 6) : ∃ F so, callN cst turns tab 60 "order_round" [ruleD o, ruleD p, sizeD R C] st = some (.int F, st ++ [so]) ∧ Period (betweenV o p R C) (R * C) F := by
  have P := perm_of (o := o) (p := p) (R := R) (C := C) (by omega) (by omega)
  have hm := mul_le (R := R) (C := C) (a := 6) (b := 6) ⟨by omega, hR.2⟩ ⟨by omega, hC.2⟩
  have bR := big_of (x := R) (by omega) (by omega)
  have bC := big_of (x := C) (by omega) (by omega)
  have hmul : ∀ st, binD .Mult (.int R) (.int C) st = some (.int (R * C), st) := fun st => mult_ok (lt900 (Int.le_of_lt bR.1) bR.2) (lt900 (Int.le_of_lt bC.1) bC.2)
  have hlen : (rangeD 0 (R * C)).length = (R * C).toNat := by simp [rangeD]
  obtain ⟨env2, st2, g1, keys, F, a6, a7, a8, S, Y, hF, all, rfl, rfl⟩ := forLoop_ix (bd := bindT (.name 6)) (body := exL (cx cst turns tab 59) (bodyOf (d_order_round.body.getD 1 .pass))) (ds := rangeD 0 (R * C)) (j := 0)
    (I := fun j env st' => ∃ keys F a6 a7 a8, Seen (betweenV o p R C) (R * C) keys ∧ Says (betweenV o p R C) keys F ∧ F ≤ 2 ^ keys.length ∧ (∀ x : Int, 0 ≤ x → x < j → x ∈ keys) ∧ st' = st ++ [.dct (seenD keys)] ∧
      env = [some (ruleD o), some (ruleD p), some (sizeD R C), some (.int (R * C)), some (.loc st.length), some (.int F), a6, a7, a8])
    (env := [some (ruleD o), some (ruleD p), some (sizeD R C), some (.int (R * C)), some (.loc st.length), some (.int 1), none, none, none]) (st := st ++ [.dct []])
    ⟨[], 1, none, none, none, ⟨List.nodup_nil, fun x hx => absurd hx (by simp), fun x _ _ => by simp⟩, ⟨Int.le_refl _, fun t => ⟨fun _ x hx => absurd hx (by simp), fun _ => Int.one_dvd _⟩⟩, by decide, fun x h1 h2 => by omega, rfl, rfl⟩
    fun i x hx env st' ⟨keys, F, a6, a7, a8, S, Y, hF, all, e1, e2⟩ => by
      subst e1 e2
      have hi : i < (rangeD 0 (R * C)).length := (List.getElem?_eq_some_iff.mp hx).1
      have hx' : x = .int i := by
        rw [rangeD_eq, List.getElem?_map, List.getElem?_range (by omega)] at hx
        exact (Option.some.inj hx).symm
      subst hx'
      obtain ⟨keys', F', a7', a8', S', Y', hF', sub, mem, w⟩ := outer (st := st) (a7 := a7) (a8 := a8) (i := (i : Int)) hR hC S Y hF ⟨by omega, by omega⟩
      exact ⟨_, rfl, _, _, w, keys', F', _, _, _, S', Y', hF', fun y h1 h2 => by
        by_cases z : y < i
        · exact sub y (all y h1 (by omega))
        · have : y = i := by omega
          rw [this]; exact mem, rfl, rfl⟩
  refine ⟨F, .dct (seenD keys), ?_, ⟨Y.1, ?_⟩, fun t => ?_⟩
  · have d0 : kDct [] st = some (.loc st.length, st ++ [.dct []]) := rfl
    have e0 : ∀ env, evL (cx cst turns tab 59) [X.dct [] [], X.int 1] env st = some ([.loc st.length, .int 1], st ++ [.dct []]) := fun env => by
      rw [evl_cons (x := X.dct [] []) rfl, ev_dct]
      rfl
    rw [call_eq (k := 59) tab_order_round rfl]
    simp only [d_order_round, bodyOf, List.getD_cons_succ, List.getD_cons_zero] at g1
    simp only [d_order_round, List.map_cons, List.map_nil, List.length_cons, List.length_nil, Nat.reduceAdd, Nat.reduceSub, Nat.reduceLT, List.replicate, List.cons_append, List.nil_append, Go, Ev1, Ev2, Ev3, Ex1, Ex2, Pl, Val1, set_name, kSet_name, kSet_tup, stTs_name, stTs_nil, setAll_cons, evl_cons, Sx, List.getElem?_cons_zero, List.getElem?_cons_succ, List.set_cons_zero, List.set_cons_succ, Option.map_some, Option.bind_some, decide_eq_true_eq, if_true, if_false, Bool.false_eq_true, asO_some, asO_no, noneX_t, noneX_i, noneX_v, noneX_n, kAug_add, kAug_sub, Isa, MkT, comp_eq, for_eq, lst_eq_nil, BEq.rfl, RuleE, hmul, e0, lim_of (show -1000000000000000000 ≤ R * C by omega) (show R * C ≤ 1000000000000000000 by omega), g1]
  · have q := nodup_le S.nd S.on
    have n1 : keys.length ≤ 36 := by
      rcases q with q | q
      · omega
      · rw [q]; decide
    have p1 : (2 : Int) ^ keys.length ≤ 2 ^ 36 := by
      have := Nat.pow_le_pow_right (show 0 < 2 by decide) n1
      exact_mod_cast this
    omega
  · rw [Y.2 t]
    exact ⟨fun h x h1 h2 => h x (all x h1 (by rw [hlen]; omega)), fun h x hx => h x (S.on x hx).1 (S.on x hx).2⟩
theorem period_uniq {g h : Int → Int} {N F F' : Int} (P : Perm g N) (Q : Perm h N) (inv : ∀ x, 0 ≤ x → x < N → h (g x) = x) (a : Period g N F) (b : Period h N F') : F' = F := by
  have hg : ∀ (t : Nat) (x : Int), 0 ≤ x → x < N → iter h t (iter g t x) = x := by
    intro t
    induction t with
    | zero => intro x _ _; rfl
    | succ t ih =>
      intro x h1 h2
      have e : ∀ (s : Nat) (y : Int), iter h (s + 1) y = iter h s (h y) := fun s y => by rw [iter_add]; rfl
      rw [e]
      show iter h t (h (g (iter g t x))) = x
      have q := P.it ⟨h1, h2⟩ t
      rw [inv _ q.1 q.2]
      exact ih x h1 h2
  have iff : ∀ t : Nat, (∀ x, 0 ≤ x → x < N → iter g t x = x) ↔ (∀ x, 0 ≤ x → x < N → iter h t x = x) := fun t => by
    constructor
    · intro z x h1 h2
      have := hg t x h1 h2
      rwa [z x h1 h2] at this
    · intro z x h1 h2
      have := hg t x h1 h2
      have q := P.it ⟨h1, h2⟩ t
      rwa [z _ q.1 q.2] at this
  have d1 : F ∣ F' := by
    have e : ((F'.toNat : Nat) : Int) = F' := Int.toNat_of_nonneg (by have := b.1.1; omega)
    have := (a.2 F'.toNat).mpr ((iff _).mpr ((b.2 F'.toNat).mp (by rw [e]; exact Int.dvd_refl _)))
    rwa [e] at this
  have d2 : F' ∣ F := by
    have e : ((F.toNat : Nat) : Int) = F := Int.toNat_of_nonneg (by have := a.1.1; omega)
    have := (b.2 F.toNat).mpr ((iff _).mp ((a.2 F.toNat).mp (by rw [e]; exact Int.dvd_refl _)))
    rwa [e] at this
  have l1 := Int.le_of_dvd (by have := b.1.1; omega) d1
  have l2 := Int.le_of_dvd (by have := a.1.1; omega) d2
  omega
def sameV (o p : Rule) (R C : Int) : Bool :=
  if ((R == 1 && C == 1) || (o.s == p.s && o.e == p.e && o.r == p.r)) = true then true else if (R == 1 || C == 1) = true then (if (R == 1) = true then o.e == p.e else o.s == p.s) else false
theorem same_order {k : Nat} {st : Store} {o p : Rule} {R C : Int} : callN cst turns tab (k + 1) "same_order" [ruleD o, ruleD p, sizeD R C] st = some (.bl (sameV o p R C), st) := by
  rw [call_eq tab_same_order rfl]
  unfold sameV
  simp only [d_same_order, List.map_cons, List.map_nil, List.length_cons, List.length_nil, Nat.reduceAdd, Nat.reduceSub, Nat.reduceLT, List.replicate, List.cons_append, List.nil_append, Go, Ev1, Ev2, Ev3, Ex1, Ex2, Pl, Val1, set_name, kSet_name, kSet_tup, stTs_name, stTs_nil, setAll_cons, evl_cons, Sx, List.getElem?_cons_zero, List.getElem?_cons_succ, List.set_cons_zero, List.set_cons_succ, Option.map_some, Option.bind_some, decide_eq_true_eq, if_true, if_false, Bool.false_eq_true, asO_some, asO_no, noneX_t, noneX_i, noneX_v, noneX_n, kAug_add, kAug_sub, Isa, MkT, comp_eq, for_eq, lst_eq_nil, BEq.rfl, RuleE, RuleQ]
  generalize hA : (R == 1) = a
  generalize hB : (C == 1) = b
  generalize hS : (o.s == p.s) = s
  generalize hE : (o.e == p.e) = e
  generalize hR : (o.r == p.r) = r
  cases a <;> cases b <;> cases s <;> cases e <;> cases r <;> simp only [List.map_cons, List.map_nil, List.length_cons, List.length_nil, Nat.reduceAdd, Nat.reduceSub, Nat.reduceLT, List.replicate, List.cons_append, List.nil_append, Go, Ev1, Ev2, Ev3, Ex1, Ex2, Pl, Val1, set_name, kSet_name, kSet_tup, stTs_name, stTs_nil, setAll_cons, evl_cons, Sx, List.getElem?_cons_zero, List.getElem?_cons_succ, List.set_cons_zero, List.set_cons_succ, Option.map_some, Option.bind_some, decide_eq_true_eq, if_true, if_false, Bool.false_eq_true, asO_some, asO_no, noneX_t, noneX_i, noneX_v, noneX_n, kAug_add, kAug_sub, Isa, MkT, comp_eq, for_eq, lst_eq_nil, BEq.rfl, RuleE, RuleQ, hA, hB, hS, hE, hR, Bool.true_and, Bool.false_and, Bool.and_true, Bool.and_false, Bool.or_false, Bool.or_true, Bool.true_or, Bool.false_or, Bool.not_true, Bool.not_false, Bool.and_self, Bool.or_self]
theorem back {o p : Rule} {R C x : Int} (hR : 0 < R) (hC : 0 < C) (h1 : 0 ≤ x) (h2 : x < R * C) : betweenV p o R C (betweenV o p R C x) = x := by
  have s1 := spot_rng (r := o) hR hC h1 h2
  unfold betweenV
  rw [spot_num (r := p) hR hC s1.1 s1.2, num_spot (r := o) hR hC h1 h2]
theorem one_fin : ∀ s e r s' e' r' : Bool, ∀ a b : Fin 6, ((List.range ((a.val + 1) * (b.val + 1))).all fun x => decide (betweenV ⟨s, e, r, 0, false⟩ ⟨s', e', r', 0, false⟩ (a.val + 1 : Nat) (b.val + 1 : Nat) x = x)) = sameV ⟨s, e, r, 0, false⟩ ⟨s', e', r', 0, false⟩ (a.val + 1 : Nat) (b.val + 1 : Nat) := by decide +kernel
theorem one_same {o p : Rule} {R C F : Int} (hR : 1 ≤ R ∧ R ≤ 6) (hC : 1 ≤ C ∧ C ≤ 6) (h : Period (betweenV o p R C) (R * C) F) : (F == 1) = sameV o p R C := by
  have q := one_fin o.s o.e o.r p.s p.e p.r ⟨(R - 1).toNat, by omega⟩ ⟨(C - 1).toNat, by omega⟩
  have e1 : ((((R - 1).toNat + 1 : Nat)) : Int) = R := by omega
  have e2 : ((((C - 1).toNat + 1 : Nat)) : Int) = C := by omega
  have e3 : (((((R - 1).toNat + 1) * ((C - 1).toNat + 1) : Nat)) : Int) = R * C := by rw [Int.natCast_mul, e1, e2]
  simp only [e1, e2] at q
  show _ = sameV ⟨o.s, o.e, o.r, 0, false⟩ ⟨p.s, p.e, p.r, 0, false⟩ R C
  rw [← q, Bool.eq_iff_iff, beq_iff_eq, List.all_eq_true]
  have h1 := h.2 1
  constructor
  · intro e x hx
    rw [List.mem_range] at hx
    have := (h1.mp (by rw [e]; exact Int.dvd_refl _)) x (by omega) (by omega)
    exact decide_eq_true this
  · intro z
    have d : F ∣ ((1 : Nat) : Int) := h1.mpr fun x a1 a2 => by
      have := of_decide_eq_true (z x.toNat (by rw [List.mem_range]; omega))
      have e4 : ((x.toNat : Nat) : Int) = x := Int.toNat_of_nonneg a1
      rw [e4] at this
      exact this
    have := Int.le_of_dvd (by decide) d
    have := h.1.1
    omega
theorem four {F : Int} (h : Period (betweenV ⟨false, false, true, 0, false⟩ ⟨false, false, false, 0, false⟩ 2 3) (2 * 3) F) : F = 4 := by
  have l := h.1.1
  have fix : ∀ t : Nat, ((List.range 6).all fun x => decide (iter (betweenV ⟨false, false, true, 0, false⟩ ⟨false, false, false, 0, false⟩ 2 3) t x = x)) = true ↔ F ∣ (t : Int) := fun t => by
    rw [h.2 t, List.all_eq_true]
    constructor
    · intro z x a1 a2
      have := of_decide_eq_true (z x.toNat (by rw [List.mem_range]; omega))
      rwa [Int.toNat_of_nonneg a1] at this
    · intro z x hx
      rw [List.mem_range] at hx
      exact decide_eq_true (z x (by omega) (by omega))
  have d4 : F ∣ ((4 : Nat) : Int) := (fix 4).mp (by decide +kernel)
  have n1 : ¬ F ∣ ((1 : Nat) : Int) := fun z => absurd ((fix 1).mpr z) (by decide +kernel)
  have n2 : ¬ F ∣ ((2 : Nat) : Int) := fun z => absurd ((fix 2).mpr z) (by decide +kernel)
  have n3 : ¬ F ∣ ((3 : Nat) : Int) := fun z => absurd ((fix 3).mpr z) (by decide +kernel)
  have := Int.le_of_dvd (by decide) d4
  obtain rfl | rfl | rfl | rfl : F = 1 ∨ F = 2 ∨ F = 3 ∨ F = 4 := by omega
  · exact absurd (Int.dvd_refl _) n1
  · exact absurd (Int.dvd_refl _) n2
  · exact absurd (Int.dvd_refl _) n3
  · rfl
def hereD (g : Int → Int) (N : Int) (t : Nat) : List D := (List.range N.toNat).map fun (i : Nat) => .int (iter g t i)
theorem eqL_int {f g : Nat → Int} : ∀ (is : List Nat), D.eqL (is.map fun i => .int (f i)) (is.map fun i => .int (g i)) = is.all fun i => f i == g i
  | [] => by simp [D.eqL]
  | i :: is => by
    simp only [List.map_cons, D.eqL, D.eq, List.all_cons]
    rw [eqL_int is]
theorem here_ne {g : Int → Int} {N : Int} {t : Nat} {st : Store} : cmpD st .NotEq (.lst (hereD g N t)) (.lst (rangeD 0 N)) = some (!((List.range N.toNat).all fun i => iter g t i == (i : Int))) := by
  have ok : ∀ (f : Nat → Int) (is : List Nat), D.okL 19 (is.map fun i => .int (f i)) = true := fun f is => okL_of fun d hd => by
    obtain ⟨i, _, rfl⟩ := List.mem_map.mp hd
    rfl
  rw [rangeD_eq]
  unfold hereD
  show ((if (D.okL 19 _ && D.okL 19 _) = true then some (D.eqL _ _) else none).map fun b => !b) = _
  rw [ok, ok, eqL_int]; rfl
theorem here_all {g : Int → Int} {N F : Int} (h : Period g N F) (t : Nat) : ((List.range N.toNat).all fun i => iter g t i == (i : Int)) = decide (F ∣ (t : Int)) := by
  rw [Bool.eq_iff_iff, List.all_eq_true, decide_eq_true_eq, h.2 t]
  constructor
  · intro z x a1 a2
    have := eq_of_beq (z x.toNat (by rw [List.mem_range]; omega))
    rwa [Int.toNat_of_nonneg a1] at this
  · intro z x hx
    rw [List.mem_range] at hx
    exact beq_iff_eq.mpr (z x (by omega) (by omega))
theorem led_get {g : Int → Int} {N : Int} {x : Int} {st : Store} (h1 : 0 ≤ x) (h2 : x < N) : subD st (.lst (hereD g N 1)) (.int x) = some (.int (g x)) := by
  show atI (hereD g N 1) x = _
  have e : ((x.toNat : Nat) : Int) = x := Int.toNat_of_nonneg h1
  have q := atI_nat (xs := hereD g N 1) (j := x.toNat) (v := .int (g x)) (by
    unfold hereD
    rw [List.getElem?_map, List.getElem?_range (by omega)]
    show some (D.int (g ((x.toNat : Nat) : Int))) = _
    rw [e])
  rwa [e] at q
theorem spin {st : Store} {o p : Rule} {R C F : Int} {a0 a1 a2 a8 : Option D} (hR : 1 ≤ R ∧ R ≤ 6) (hC : 1 ≤ C ∧ C ≤ 6) (h : Period (betweenV o p R C) (R * C) F) :
    ∀ (n t : Nat), 1 ≤ t → (t : Int) ≤ F → F < n + t → ∃ b8,
      whileLoop (cndW (cx cst turns tab depth) (.cmp .NotEq (.var 9) (.lrange false (.var 6)))) (exL (cx cst turns tab depth) [.par [9, 10] [.comp [("index", 8)] (.name 8) (.seq (.var 9)) (.bl true) (.sub (.var 7) (.var 8)), .bin .Add (.var 10) (.int 1)]]) n
        [a0, a1, a2, some (ruleD o), some (ruleD p), some (sizeD R C), some (.int (R * C)), some (.lst (hereD (betweenV o p R C) (R * C) 1)), a8, some (.lst (hereD (betweenV o p R C) (R * C) t)), some (.int t)] st =
      some (.next, [a0, a1, a2, some (ruleD o), some (ruleD p), some (sizeD R C), some (.int (R * C)), some (.lst (hereD (betweenV o p R C) (R * C) 1)), b8, some (.lst (hereD (betweenV o p R C) (R * C) F.toNat)), some (.int F)], st) := by
  have P := perm_of (o := o) (p := p) (R := R) (C := C) (by omega) (by omega)
  have hm := mul_le (R := R) (C := C) (a := 6) (b := 6) ⟨by omega, hR.2⟩ ⟨by omega, hC.2⟩
  have lr := lrange_ok (st := st) (n := R * C) (by omega) (by omega)
  have hF := h.1
  intro n
  induction n generalizing a8 with
  | zero => intro t h1 h2 h3; omega
  | succ n ih =>
    intro t h1 h2 h3
    by_cases z : F ∣ (t : Int)
    · have e : F = t := by
        have := Int.le_of_dvd (by omega) z
        omega
      refine ⟨a8, ?_⟩
      rw [show F.toNat = t by omega]
      rw [while_stop (st1 := st) (by
        unfold cndW
        simp only [List.map_cons, List.map_nil, List.length_cons, List.length_nil, Nat.reduceAdd, Nat.reduceSub, Nat.reduceLT, List.replicate, List.cons_append, List.nil_append, Go, Ev1, Ev2, Ev3, Ex1, Ex2, Pl, Val1, set_name, kSet_name, kSet_tup, stTs_name, stTs_nil, setAll_cons, evl_cons, Sx, List.getElem?_cons_zero, List.getElem?_cons_succ, List.set_cons_zero, List.set_cons_succ, Option.map_some, Option.bind_some, decide_eq_true_eq, if_true, if_false, Bool.false_eq_true, asO_some, asO_no, noneX_t, noneX_i, noneX_v, noneX_n, kAug_add, kAug_sub, Isa, MkT, comp_eq, for_eq, lst_eq_nil, BEq.rfl, Ev4, kRange, lr, here_ne, here_all h, z, decide_true, Bool.not_true]
        rfl)]
      rw [← e]
    · have ne : (t : Int) ≠ F := fun e => z (by rw [e]; exact Int.dvd_refl _)
      obtain ⟨b8, w⟩ := ih (a8 := a8) (t + 1) (by omega) (by omega) (by omega)
      refine ⟨b8, ?_⟩
      rw [← w]
      refine while_step (st1 := st) (st2 := st) ?_ ?_
      · unfold cndW
        simp only [List.map_cons, List.map_nil, List.length_cons, List.length_nil, Nat.reduceAdd, Nat.reduceSub, Nat.reduceLT, List.replicate, List.cons_append, List.nil_append, Go, Ev1, Ev2, Ev3, Ex1, Ex2, Pl, Val1, set_name, kSet_name, kSet_tup, stTs_name, stTs_nil, setAll_cons, evl_cons, Sx, List.getElem?_cons_zero, List.getElem?_cons_succ, List.set_cons_zero, List.set_cons_succ, Option.map_some, Option.bind_some, decide_eq_true_eq, if_true, if_false, Bool.false_eq_true, asO_some, asO_no, noneX_t, noneX_i, noneX_v, noneX_n, kAug_add, kAug_sub, Isa, MkT, comp_eq, for_eq, lst_eq_nil, BEq.rfl, Ev4, kRange, lr, here_ne, here_all h, z, decide_false, Bool.not_false]
        rfl
      · have cm : ∀ {one : D → Store → Option (List D × Store)}, (∀ y : Int, 0 ≤ y → y < R * C → one (.int y) st = some ([.int (betweenV o p R C y)], st)) → endC (compLoop none one (hereD (betweenV o p R C) (R * C) t) st) = some (.lst (hereD (betweenV o p R C) (R * C) (t + 1)), st) := fun {one} q => by
          exact comp_map (F := fun (i : Nat) => D.int (iter (betweenV o p R C) t i)) (G := fun (i : Nat) => D.int (iter (betweenV o p R C) (t + 1) i)) (by rw [List.length_range]; omega) fun i hi => by
            rw [List.mem_range] at hi
            have it := P.it (i := (i : Int)) ⟨by omega, by omega⟩ t
            exact q _ it.1 it.2
        simp only [List.map_cons, List.map_nil, List.length_cons, List.length_nil, Nat.reduceAdd, Nat.reduceSub, Nat.reduceLT, List.replicate, List.cons_append, List.nil_append, Go, Ev1, Ev2, Ev3, Ex1, Ex2, Pl, Val1, set_name, kSet_name, kSet_tup, stTs_name, stTs_nil, setAll_cons, evl_cons, Sx, List.getElem?_cons_zero, List.getElem?_cons_succ, List.set_cons_zero, List.set_cons_succ, Option.map_some, Option.bind_some, decide_eq_true_eq, if_true, if_false, Bool.false_eq_true, asO_some, asO_no, noneX_t, noneX_i, noneX_v, noneX_n, kAug_add, kAug_sub, Isa, MkT, comp_eq, for_eq, lst_eq_nil, BEq.rfl]
        rw [cm fun y h1 h2 => by
          rw [one1_name (by show (8 : Nat) < 11; decide)]
          simp only [wipeE, List.map_cons, List.map_nil, List.length_cons, List.length_nil, Nat.reduceAdd, Nat.reduceSub, Nat.reduceLT, List.replicate, List.cons_append, List.nil_append, Go, Ev1, Ev2, Ev3, Ex1, Ex2, Pl, Val1, set_name, kSet_name, kSet_tup, stTs_name, stTs_nil, setAll_cons, evl_cons, Sx, List.getElem?_cons_zero, List.getElem?_cons_succ, List.set_cons_zero, List.set_cons_succ, Option.map_some, Option.bind_some, decide_eq_true_eq, if_true, if_false, Bool.false_eq_true, asO_some, asO_no, noneX_t, noneX_i, noneX_v, noneX_n, kAug_add, kAug_sub, Isa, MkT, comp_eq, for_eq, lst_eq_nil, BEq.rfl, kBl_bl, led_get h1 h2]]
        simp only [List.map_cons, List.map_nil, List.length_cons, List.length_nil, Nat.reduceAdd, Nat.reduceSub, Nat.reduceLT, List.replicate, List.cons_append, List.nil_append, Go, Ev1, Ev2, Ev3, Ex1, Ex2, Pl, Val1, set_name, kSet_name, kSet_tup, stTs_name, stTs_nil, setAll_cons, evl_cons, Sx, List.getElem?_cons_zero, List.getElem?_cons_succ, List.set_cons_zero, List.set_cons_succ, Option.map_some, Option.bind_some, decide_eq_true_eq, if_true, if_false, Bool.false_eq_true, asO_some, asO_no, noneX_t, noneX_i, noneX_v, noneX_n, kAug_add, kAug_sub, Isa, MkT, comp_eq, for_eq, lst_eq_nil, BEq.rfl, lim_of (show -1000000000000000000 ≤ (t : Int) by omega) (show (t : Int) ≤ 1000000000000000000 by omega), lim_of (show -1000000000000000000 ≤ (t : Int) + 1 by omega) (show (t : Int) + 1 ≤ 1000000000000000000 by omega)]
        rfl
theorem Tp.push {cells : List Int} {n : Nat} {b : Int} {st0 st : Store} (o : SO) (h : Tp cells n b st0 st) : Tp cells n b (st ++ [o]) (st ++ [o]) := by
  obtain ⟨⟨i, c, h1, h2, h3⟩, _⟩ := h
  refine ⟨⟨i, c, ?_, h2, h3⟩, rfl, fun _ _ => rfl⟩
  unfold tapeAt at h1 ⊢
  rw [List.getElem?_append_left (List.getElem?_eq_some_iff.mp h1).1]
  exact h1
def pickI (o p : Rule) (R C : Int) (j : Nat) : List D := ((List.range j).filter fun (i : Nat) => decide (numV p R C (spotV o R C i) = i)).map fun (i : Nat) => .int i
theorem turn {ns : List Int} {b : Int} {st : Store} {a2 a3 a4 a5 a6 a7 a8 a9 a10 : Option D} (h : ∃ st0, Tp ns 0 b st0 st) (hb : b ≤ 1000000) : ∃ env2 st2, exL (cx cst turns tab depth) (bodyOf (d_law.body.getD 1 .pass)) [some (.frz ns), some (.loc 0), a2, a3, a4, a5, a6, a7, a8, a9, a10] st = some (.next, env2, st2) ∧
    ∃ c2 c3 c4 c5 c6 c7 c8 c9 c10, env2 = [some (.frz ns), some (.loc 0), c2, c3, c4, c5, c6, c7, c8, c9, c10] ∧ ∃ st0, Tp ns 0 (b + 20) st0 st2 := by
  obtain ⟨st0, h⟩ := h
  obtain ⟨st1, o, e1, _, t1⟩ := rule (cst := cst) (turns := turns) (k := 58) t_draw t_rule h (by omega)
  obtain ⟨st2, p, e2, _, t2⟩ := rule (cst := cst) (turns := turns) (k := 58) t_draw t_rule t1 (by omega)
  obtain ⟨st3, d1, e3, h1, t3⟩ := draw (cst := cst) (turns := turns) (k := 59) (m := 6) t_draw t2 (by omega) (by decide) (by decide)
  obtain ⟨st4, d2, e4, h2, t4⟩ := draw (cst := cst) (turns := turns) (k := 59) (m := 6) t_draw t3 (by omega) (by decide) (by decide)
  obtain ⟨R, rfl⟩ : ∃ R, R = 1 + d1 := ⟨_, rfl⟩
  obtain ⟨C, hCe⟩ : ∃ C, C = 1 + d2 := ⟨_, rfl⟩
  have hR : 1 ≤ 1 + d1 ∧ 1 + d1 ≤ 6 := by omega
  have hC : 1 ≤ 1 + d2 ∧ 1 + d2 ≤ 6 := by omega
  have bR := big_of (x := 1 + d1) (by omega) (by omega)
  have bC := big_of (x := 1 + d2) (by omega) (by omega)
  have hm := mul_le (R := 1 + d1) (C := 1 + d2) (a := 6) (b := 6) ⟨by omega, hR.2⟩ ⟨by omega, hC.2⟩
  have hmul : ∀ st, binD .Mult (.int (1 + d1)) (.int (1 + d2)) st = some (.int ((1 + d1) * (1 + d2)), st) := fun st => mult_ok (lt900 (Int.le_of_lt bR.1) bR.2) (lt900 (Int.le_of_lt bC.1) bC.2)
  have mk : ∀ {A B : Int} {st : Store}, mkT [.int A, .int B] st = some (sizeD A B, st) := fun {A B st} => mkT_ok (by simp [sizeLine])
  obtain ⟨F, so, r1, P1⟩ := round (st := st4) (o := o) (p := p) hR hC
  obtain ⟨F', so', r2, P2⟩ := round (st := st4 ++ [so]) (o := p) (p := o) hR hC
  obtain rfl := period_uniq (perm_of (o := o) (p := p) bR.1 bC.1) (perm_of (o := p) (p := o) bR.1 bC.1) (fun x x1 x2 => back bR.1 bC.1 x1 x2) P1 P2
  have lk : ∀ {st : Store}, callN cst turns tab 60 "_law_like" [.int F', .int F'] st = some (.bl true, st) := fun {st} => like_self (n := 0) (k := 59) (d := .int F') t_like trivial (by decide) (by decide)
  have q := one_same hR hC P1
  have so3 : ∀ {x y : Rule} {A B : Int} {st : Store}, callN cst turns tab 60 "same_order" [ruleD x, ruleD y, sizeD A B] st = some (.bl (sameV x y A B), st) := same_order (k := 59)
  obtain ⟨b8, w⟩ := spin (st := st4) (a0 := some (.frz ns)) (a1 := some (.loc 0)) (a2 := a2) (a8 := a8) hR hC P1 turns 1 (Nat.le_refl _) (by have := P1.1.1; omega) (by have := P1.1.2; show F' < ((2000000000000 : Nat) : Int) + ((1 : Nat) : Int); omega)
  have sl : ∀ (ds : List D) (st : Store), sliceD (.lst ds) none none st = some (.lst ds, st) := fun ds st => by
    show some (D.lst (cutD ds none none), st) = _
    rw [cut_all ds none none ⟨rfl, rfl⟩]
  have led : ∀ {one : D → Store → Option (List D × Store)}, (∀ y : Int, 0 ≤ y → y < (1 + d1) * (1 + d2) → one (.int y) st4 = some ([.int (betweenV o p (1 + d1) (1 + d2) y)], st4)) → endC (compLoop none one (rangeD 0 ((1 + d1) * (1 + d2))) st4) = some (.lst (hereD (betweenV o p (1 + d1) (1 + d2)) ((1 + d1) * (1 + d2)) 1), st4) := fun {one} q => comp_range (f := fun i => .int (betweenV o p (1 + d1) (1 + d2) i)) (by omega) q
  have sp : ∀ (i : Int), callN cst turns tab 60 "_law_spot" [ruleD o, sizeD (1 + d1) (1 + d2), .int i] st4 = some (placeD (spotV o (1 + d1) (1 + d2) i), st4) := fun i => spot (k := 59) t_spot bR bC
  simp only [d_law, bodyOf, List.getD_cons_succ, List.getD_cons_zero, List.map_cons, List.map_nil, List.length_cons, List.length_nil, Nat.reduceAdd, Nat.reduceSub, Nat.reduceLT, List.replicate, List.cons_append, List.nil_append, Go, Ev1, Ev2, Ev3, Ex1, Ex2, Pl, Val1, set_name, kSet_name, kSet_tup, stTs_name, stTs_nil, setAll_cons, evl_cons, Sx, List.getElem?_cons_zero, List.getElem?_cons_succ, List.set_cons_zero, List.set_cons_succ, Option.map_some, Option.bind_some, decide_eq_true_eq, if_true, if_false, Bool.false_eq_true, asO_some, asO_no, noneX_t, noneX_i, noneX_v, noneX_n, kAug_add, kAug_sub, Isa, MkT, comp_eq, for_eq, lst_eq_nil, BEq.rfl, e1, e2, e3, e4, mk, RuleE, hmul, lim_of (show -1000000000000000000 ≤ 1 + d1 by omega) (show 1 + d1 ≤ 1000000000000000000 by omega), lim_of (show -1000000000000000000 ≤ 1 + d2 by omega) (show 1 + d2 ≤ 1000000000000000000 by omega), lim_of (show -1000000000000000000 ≤ (1 + d1) * (1 + d2) by omega) (show (1 + d1) * (1 + d2) ≤ 1000000000000000000 by omega)]
  rw [led fun y y1 y2 => by
    have s := spot_rng (r := o) bR.1 bC.1 y1 y2
    have nm : callN cst turns tab 60 "_law_number" [ruleD p, sizeD (1 + d1) (1 + d2), placeD (spotV o (1 + d1) (1 + d2) y)] st4 = some (.int (numV p (1 + d1) (1 + d2) (spotV o (1 + d1) (1 + d2) y)), st4) := number (k := 59) t_number bR bC (big_in (by omega) (by omega)) (big_in (by omega) (by omega))
    rw [one1_name (by show (8 : Nat) < 11; decide)]
    simp only [wipeE, List.map_cons, List.map_nil, List.length_cons, List.length_nil, Nat.reduceAdd, Nat.reduceSub, Nat.reduceLT, List.replicate, List.cons_append, List.nil_append, Go, Ev1, Ev2, Ev3, Ex1, Ex2, Pl, Val1, set_name, kSet_name, kSet_tup, stTs_name, stTs_nil, setAll_cons, evl_cons, Sx, List.getElem?_cons_zero, List.getElem?_cons_succ, List.set_cons_zero, List.set_cons_succ, Option.map_some, Option.bind_some, decide_eq_true_eq, if_true, if_false, Bool.false_eq_true, asO_some, asO_no, noneX_t, noneX_i, noneX_v, noneX_n, kAug_add, kAug_sub, Isa, MkT, comp_eq, for_eq, lst_eq_nil, BEq.rfl, kBl_bl, sp, nm]
    rfl]
  have ne0 : ∀ st, cmpD st .NotEq (.int F') (.int F') = some false := fun st => by
    show some (!(F' == F')) = _
    rw [BEq.rfl]; rfl
  have eq1 : ∀ st, cmpD st .Eq (.int F') (.int 1) = some (sameV o p (1 + d1) (1 + d2)) := fun st => by
    rw [← q]; rfl
  have ne1 : ∀ (b : Bool) st, cmpD st .NotEq (.bl b) (.bl b) = some false := fun b st => by cases b <;> rfl
  simp only [List.map_cons, List.map_nil, List.length_cons, List.length_nil, Nat.reduceAdd, Nat.reduceSub, Nat.reduceLT, List.replicate, List.cons_append, List.nil_append, Go, Ev1, Ev2, Ev3, Ex1, Ex2, Pl, Val1, set_name, kSet_name, kSet_tup, stTs_name, stTs_nil, setAll_cons, evl_cons, Sx, List.getElem?_cons_zero, List.getElem?_cons_succ, List.set_cons_zero, List.set_cons_succ, Option.map_some, Option.bind_some, decide_eq_true_eq, if_true, if_false, Bool.false_eq_true, asO_some, asO_no, noneX_t, noneX_i, noneX_v, noneX_n, kAug_add, kAug_sub, Isa, MkT, comp_eq, for_eq, lst_eq_nil, BEq.rfl, sl, ex_whileC]
  rw [show ((1 : Nat) : Int) = 1 from rfl] at w
  rw [w]
  simp only [List.map_cons, List.map_nil, List.length_cons, List.length_nil, Nat.reduceAdd, Nat.reduceSub, Nat.reduceLT, List.replicate, List.cons_append, List.nil_append, Go, Ev1, Ev2, Ev3, Ex1, Ex2, Pl, Val1, set_name, kSet_name, kSet_tup, stTs_name, stTs_nil, setAll_cons, evl_cons, Sx, List.getElem?_cons_zero, List.getElem?_cons_succ, List.set_cons_zero, List.set_cons_succ, Option.map_some, Option.bind_some, decide_eq_true_eq, if_true, if_false, Bool.false_eq_true, asO_some, asO_no, noneX_t, noneX_i, noneX_v, noneX_n, kAug_add, kAug_sub, Isa, MkT, comp_eq, for_eq, lst_eq_nil, BEq.rfl, r1, r2, lk, ne0, eq1, so3, ne1, Bool.not_true]
  exact ⟨_, _, rfl, _, _, _, _, _, _, _, _, _, rfl, _, (Tp.push so' (Tp.push so t4)).mono (by omega)⟩
theorem law_true (ns : List Int) (h : ns.length ≤ 63) : ∃ st', Q.callN cst turns tab (depth + 1) "law" [.frz ns] [] = some (.bl true, st') := by
  rw [call_eq tab_law rfl]
  obtain ⟨env2, st2, g1, c2, c3, c4, c5, c6, c7, c8, c9, c10, rfl, g3⟩ := forLoop_ix (bd := bindT (.name 2)) (body := exL (cx cst turns tab depth) (bodyOf (d_law.body.getD 1 .pass))) (ds := rangeD 0 8) (j := 0)
      (I := fun j env st => ∃ c2 c3 c4 c5 c6 c7 c8 c9 c10, env = [some (.frz ns), some (.loc 0), c2, c3, c4, c5, c6, c7, c8, c9, c10] ∧ ∃ st0, Tp ns 0 (20 * j) st0 st)
      (env := [some (.frz ns), some (.loc 0), none, none, none, none, none, none, none, none, none]) (st := [.lst [.lst (ns.map D.int), .int 0, .int 0]]) ⟨_, _, _, _, _, _, _, _, _, rfl, _, Tp.start⟩ fun i d hd env st ⟨c2, c3, c4, c5, c6, c7, c8, c9, c10, e, t⟩ => by
        have hi : i < (rangeD 0 8).length := (List.getElem?_eq_some_iff.mp hd).1
        have hi2 : i < 8 := by simpa [rangeD] using hi
        subst e
        refine ⟨_, rfl, ?_⟩
        obtain ⟨env2, st2, g1, c2, c3, c4, c5, c6, c7, c8, c9, c10, g2, st0, g3⟩ := turn (a2 := some d) (a3 := c3) (a4 := c4) (a5 := c5) (a6 := c6) (a7 := c7) (a8 := c8) (a9 := c9) (a10 := c10) t (by omega)
        exact ⟨env2, st2, g1, c2, c3, c4, c5, c6, c7, c8, c9, c10, g2, st0, g3.mono (by omega)⟩
  obtain ⟨F, so, r1, P1⟩ := round (st := st2) (o := ⟨false, false, true, 0, false⟩) (p := ⟨false, false, false, 0, false⟩) (R := 2) (C := 3) (by decide) (by decide)
  obtain rfl := four P1
  have r2 : callN cst turns tab 60 "order_round" [.tup [.str "nw", .str "rows", .str "next", .bl false], .tup [.str "nw", .str "columns", .str "next", .bl false], .tup [.int 2, .int 3]] st2 = some (.int 4, st2 ++ [so]) := r1
  have lf := list_frz (st := []) h
  simp only [d_law, bodyOf, List.getD_cons_succ, List.getD_cons_zero] at g1
  simp only [d_law, List.map_cons, List.map_nil, List.length_cons, List.length_nil, Nat.reduceAdd, Nat.reduceSub, Nat.reduceLT, List.replicate, List.cons_append, List.nil_append, Go, Ev1, Ev2, Ev3, Ex1, Ex2, Pl, Val1, set_name, kSet_name, kSet_tup, stTs_name, stTs_nil, setAll_cons, evl_cons, Sx, List.getElem?_cons_zero, List.getElem?_cons_succ, List.set_cons_zero, List.set_cons_succ, Option.map_some, Option.bind_some, decide_eq_true_eq, if_true, if_false, Bool.false_eq_true, asO_some, asO_no, noneX_t, noneX_i, noneX_v, noneX_n, kAug_add, kAug_sub, Isa, MkT, comp_eq, for_eq, lst_eq_nil, BEq.rfl, lf, tape0, lim_of (show -1000000000000000000 ≤ (8 : Int) by decide) (show (8 : Int) ≤ 1000000000000000000 by decide), g1, r2]
  exact ⟨_, rfl⟩
end K

namespace K
open PySem PySem.Spec PyProof.Rows L2
section
variable {w : World} {K : PySem.W.Frag} {h : Heap} {mg : Str → Option Value}
theorem all_mk {l : PySem.W.OpenLaw} {fa f0 f1 f2 f3 f4 f5 f6 f7 f8 f9 f10 f11 : Addr} (X : K.In h) (G : h.Ns mainGlobals mg) (hfa : mg "law" = some (.ref fa))
    {od0 an0 : Option Addr} {sl0 : Array (Option Value)} {oc0 kV0 dc0 pm0 cd0 ct0 : Value}
    (a0 : PySem.W.nsIn K mainGlobals "law" = some (some (.ref f0))) (l0 : K.lookup f0 = some ⟨oc0, od0, .func (PySem.W.fnOf "law" "law" (defArgs (topS 15)) (defBody (topS 15)) (defScope (topS 15)) .none kV0 dc0 pm0 an0 cd0 ct0), sl0⟩)
    (c0 : PySem.W.codeIn K cd0 "law" = true) (k0 : PySem.W.keepIn K (.ref f0) = true)
    {od1 an1 : Option Addr} {sl1 : Array (Option Value)} {oc1 kV1 dc1 pm1 cd1 ct1 : Value}
    (a1 : PySem.W.nsIn K mainGlobals "cell_at" = some (some (.ref f1))) (l1 : K.lookup f1 = some ⟨oc1, od1, .func (PySem.W.fnOf "cell_at" "cell_at" (defArgs (topS 1)) (defBody (topS 1)) (defScope (topS 1)) .none kV1 dc1 pm1 an1 cd1 ct1), sl1⟩)
    (c1 : PySem.W.codeIn K cd1 "cell_at" = true) (k1 : PySem.W.keepIn K (.ref f1) = true)
    {od2 an2 : Option Addr} {sl2 : Array (Option Value)} {oc2 kV2 dc2 pm2 cd2 ct2 : Value}
    (a2 : PySem.W.nsIn K mainGlobals "index_of" = some (some (.ref f2))) (l2 : K.lookup f2 = some ⟨oc2, od2, .func (PySem.W.fnOf "index_of" "index_of" (defArgs (topS 2)) (defBody (topS 2)) (defScope (topS 2)) .none kV2 dc2 pm2 an2 cd2 ct2), sl2⟩)
    (c2 : PySem.W.codeIn K cd2 "index_of" = true) (k2 : PySem.W.keepIn K (.ref f2) = true)
    {od3 an3 : Option Addr} {sl3 : Array (Option Value)} {oc3 kV3 dc3 pm3 cd3 ct3 : Value}
    (a3 : PySem.W.nsIn K mainGlobals "index_between" = some (some (.ref f3))) (l3 : K.lookup f3 = some ⟨oc3, od3, .func (PySem.W.fnOf "index_between" "index_between" (defArgs (topS 4)) (defBody (topS 4)) (defScope (topS 4)) .none kV3 dc3 pm3 an3 cd3 ct3), sl3⟩)
    (c3 : PySem.W.codeIn K cd3 "index_between" = true) (k3 : PySem.W.keepIn K (.ref f3) = true)
    {od4 an4 : Option Addr} {sl4 : Array (Option Value)} {oc4 kV4 dc4 pm4 cd4 ct4 : Value}
    (a4 : PySem.W.nsIn K mainGlobals "combined" = some (some (.ref f4))) (l4 : K.lookup f4 = some ⟨oc4, od4, .func (PySem.W.fnOf "combined" "combined" (defArgs (topS 5)) (defBody (topS 5)) (defScope (topS 5)) .none kV4 dc4 pm4 an4 cd4 ct4), sl4⟩)
    (c4 : PySem.W.codeIn K cd4 "combined" = true) (k4 : PySem.W.keepIn K (.ref f4) = true)
    {od5 an5 : Option Addr} {sl5 : Array (Option Value)} {oc5 kV5 dc5 pm5 cd5 ct5 : Value}
    (a5 : PySem.W.nsIn K mainGlobals "order_round" = some (some (.ref f5))) (l5 : K.lookup f5 = some ⟨oc5, od5, .func (PySem.W.fnOf "order_round" "order_round" (defArgs (topS 6)) (defBody (topS 6)) (defScope (topS 6)) .none kV5 dc5 pm5 an5 cd5 ct5), sl5⟩)
    (c5 : PySem.W.codeIn K cd5 "order_round" = true) (k5 : PySem.W.keepIn K (.ref f5) = true)
    {od6 an6 : Option Addr} {sl6 : Array (Option Value)} {oc6 kV6 dc6 pm6 cd6 ct6 : Value}
    (a6 : PySem.W.nsIn K mainGlobals "same_order" = some (some (.ref f6))) (l6 : K.lookup f6 = some ⟨oc6, od6, .func (PySem.W.fnOf "same_order" "same_order" (defArgs (topS 8)) (defBody (topS 8)) (defScope (topS 8)) .none kV6 dc6 pm6 an6 cd6 ct6), sl6⟩)
    (c6 : PySem.W.codeIn K cd6 "same_order" = true) (k6 : PySem.W.keepIn K (.ref f6) = true)
    {od7 an7 : Option Addr} {sl7 : Array (Option Value)} {oc7 kV7 dc7 pm7 cd7 ct7 : Value}
    (a7 : PySem.W.nsIn K mainGlobals "_law_draw" = some (some (.ref f7))) (l7 : K.lookup f7 = some ⟨oc7, od7, .func (PySem.W.fnOf "_law_draw" "_law_draw" (defArgs (topS 10)) (defBody (topS 10)) (defScope (topS 10)) .none kV7 dc7 pm7 an7 cd7 ct7), sl7⟩)
    (c7 : PySem.W.codeIn K cd7 "_law_draw" = true) (k7 : PySem.W.keepIn K (.ref f7) = true)
    {od8 an8 : Option Addr} {sl8 : Array (Option Value)} {oc8 kV8 dc8 pm8 cd8 ct8 : Value}
    (a8 : PySem.W.nsIn K mainGlobals "_law_like" = some (some (.ref f8))) (l8 : K.lookup f8 = some ⟨oc8, od8, .func (PySem.W.fnOf "_law_like" "_law_like" (defArgs (topS 11)) (defBody (topS 11)) (defScope (topS 11)) .none kV8 dc8 pm8 an8 cd8 ct8), sl8⟩)
    (c8 : PySem.W.codeIn K cd8 "_law_like" = true) (k8 : PySem.W.keepIn K (.ref f8) = true)
    {od9 an9 : Option Addr} {sl9 : Array (Option Value)} {oc9 kV9 dc9 pm9 cd9 ct9 : Value}
    (a9 : PySem.W.nsIn K mainGlobals "_law_rule" = some (some (.ref f9))) (l9 : K.lookup f9 = some ⟨oc9, od9, .func (PySem.W.fnOf "_law_rule" "_law_rule" (defArgs (topS 12)) (defBody (topS 12)) (defScope (topS 12)) .none kV9 dc9 pm9 an9 cd9 ct9), sl9⟩)
    (c9 : PySem.W.codeIn K cd9 "_law_rule" = true) (k9 : PySem.W.keepIn K (.ref f9) = true)
    {od10 an10 : Option Addr} {sl10 : Array (Option Value)} {oc10 kV10 dc10 pm10 cd10 ct10 : Value}
    (a10 : PySem.W.nsIn K mainGlobals "_law_spot" = some (some (.ref f10))) (l10 : K.lookup f10 = some ⟨oc10, od10, .func (PySem.W.fnOf "_law_spot" "_law_spot" (defArgs (topS 13)) (defBody (topS 13)) (defScope (topS 13)) .none kV10 dc10 pm10 an10 cd10 ct10), sl10⟩)
    (c10 : PySem.W.codeIn K cd10 "_law_spot" = true) (k10 : PySem.W.keepIn K (.ref f10) = true)
    {od11 an11 : Option Addr} {sl11 : Array (Option Value)} {oc11 kV11 dc11 pm11 cd11 ct11 : Value}
    (a11 : PySem.W.nsIn K mainGlobals "_law_number" = some (some (.ref f11))) (l11 : K.lookup f11 = some ⟨oc11, od11, .func (PySem.W.fnOf "_law_number" "_law_number" (defArgs (topS 14)) (defBody (topS 14)) (defScope (topS 14)) .none kV11 dc11 pm11 an11 cd11 ct11), sl11⟩)
    (c11 : PySem.W.codeIn K cd11 "_law_number" = true) (k11 : PySem.W.keepIn K (.ref f11) = true)
    (z0 : PySem.W.nsIn K mainGlobals "len" = some none)
    (z1 : PySem.W.nsIn K mainGlobals "int" = some none)
    (z2 : PySem.W.nsIn K mainGlobals "bool" = some none)
    (z3 : PySem.W.nsIn K mainGlobals "abs" = some none)
    (z4 : PySem.W.nsIn K mainGlobals "max" = some none)
    (z5 : PySem.W.nsIn K mainGlobals "min" = some none)
    (z6 : PySem.W.nsIn K mainGlobals "all" = some none)
    (z7 : PySem.W.nsIn K mainGlobals "any" = some none)
    (z8 : PySem.W.nsIn K mainGlobals "tuple" = some none)
    (z9 : PySem.W.nsIn K mainGlobals "list" = some none)
    (z10 : PySem.W.nsIn K mainGlobals "range" = some none)
    (z11 : PySem.W.nsIn K mainGlobals "sorted" = some none)
    (z12 : PySem.W.nsIn K mainGlobals "dict" = some none)
    (z13 : PySem.W.nsIn K mainGlobals "enumerate" = some none)
    (z14 : PySem.W.nsIn K mainGlobals "zip" = some none)
    (z15 : PySem.W.nsIn K mainGlobals "isinstance" = some none)
    (z16 : PySem.W.nsIn K mainGlobals "set" = some none)
    (z17 : PySem.W.nsIn K mainGlobals "str" = some none)
    : ∃ fd : FuncData, (∀ (s : Shared) (v : Value), BindsTo s fd ⟨[v], []⟩ [("script", v)]) ∧ ∀ base : Heap, K.In base → base.Ns mainGlobals mg → FnOk l.prog w K mg base CX0 (depth + 1) fa fd ["script"] (Q.spC K [] (Q.callN cst turns tab (depth + 1) "law")) := by
  have e := hfa.symm.trans (PySem.W.mg_of X G a0)
  cases e
  have F0 := fun_mk (st := topS 15) l0 c0 k0
  have t : Q.Top K mg sg tab cst := by
    refine ⟨fun p hp => ?_, fun x hx => ?_, fun x hx => ?_⟩
    · simp only [sg, List.mem_cons, List.not_mem_nil, or_false] at hp
      rcases hp with rfl | rfl | rfl | rfl | rfl | rfl | rfl | rfl | rfl | rfl | rfl
      · exact Q.has_mk (ps := ["rule", "size", "index"]) X G a1 l1 c1 k1 (fun _ _ _ _ _ _ us hl => match us, hl with | [_, _, _], _ => rfl) rfl tab_cell_at ok_cell_at
      · exact Q.has_mk (ps := ["rule", "size", "place"]) X G a2 l2 c2 k2 (fun _ _ _ _ _ _ us hl => match us, hl with | [_, _, _], _ => rfl) rfl tab_index_of ok_index_of
      · exact Q.has_mk (ps := ["one", "other", "size", "index"]) X G a3 l3 c3 k3 (fun _ _ _ _ _ _ us hl => match us, hl with | [_, _, _, _], _ => rfl) rfl tab_index_between ok_index_between
      · exact Q.has_mk (ps := ["one", "other"]) X G a4 l4 c4 k4 (fun _ _ _ _ _ _ us hl => match us, hl with | [_, _], _ => rfl) rfl tab_combined ok_combined
      · exact Q.has_mk (ps := ["one", "other", "size"]) X G a5 l5 c5 k5 (fun _ _ _ _ _ _ us hl => match us, hl with | [_, _, _], _ => rfl) rfl tab_order_round ok_order_round
      · exact Q.has_mk (ps := ["one", "other", "size"]) X G a6 l6 c6 k6 (fun _ _ _ _ _ _ us hl => match us, hl with | [_, _, _], _ => rfl) rfl tab_same_order ok_same_order
      · exact Q.has_mk (ps := ["tape", "many"]) X G a7 l7 c7 k7 (fun _ _ _ _ _ _ us hl => match us, hl with | [_, _], _ => rfl) rfl tab_law_draw ok_law_draw
      · exact Q.has_mk (ps := ["one", "two"]) X G a8 l8 c8 k8 (fun _ _ _ _ _ _ us hl => match us, hl with | [_, _], _ => rfl) rfl tab_law_like ok_law_like
      · exact Q.has_mk (ps := ["tape"]) X G a9 l9 c9 k9 (fun _ _ _ _ _ _ us hl => match us, hl with | [_], _ => rfl) rfl tab_law_rule ok_law_rule
      · exact Q.has_mk (ps := ["rule", "size", "index"]) X G a10 l10 c10 k10 (fun _ _ _ _ _ _ us hl => match us, hl with | [_, _, _], _ => rfl) rfl tab_law_spot ok_law_spot
      · exact Q.has_mk (ps := ["rule", "size", "place"]) X G a11 l11 c11 k11 (fun _ _ _ _ _ _ us hl => match us, hl with | [_, _, _], _ => rfl) rfl tab_law_number ok_law_number
    · exact absurd hx (by simp [sg])
    · simp only [Q.blts, List.mem_cons, List.not_mem_nil, or_false] at hx
      rcases hx with rfl | rfl | rfl | rfl | rfl | rfl | rfl | rfl | rfl | rfl | rfl | rfl | rfl | rfl | rfl | rfl | rfl | rfl
      · exact PySem.W.mg_none_of X G z0
      · exact PySem.W.mg_none_of X G z1
      · exact PySem.W.mg_none_of X G z2
      · exact PySem.W.mg_none_of X G z3
      · exact PySem.W.mg_none_of X G z4
      · exact PySem.W.mg_none_of X G z5
      · exact PySem.W.mg_none_of X G z6
      · exact PySem.W.mg_none_of X G z7
      · exact PySem.W.mg_none_of X G z8
      · exact PySem.W.mg_none_of X G z9
      · exact PySem.W.mg_none_of X G z10
      · exact PySem.W.mg_none_of X G z11
      · exact PySem.W.mg_none_of X G z12
      · exact PySem.W.mg_none_of X G z13
      · exact PySem.W.mg_none_of X G z14
      · exact PySem.W.mg_none_of X G z15
      · exact PySem.W.mg_none_of X G z16
      · exact PySem.W.mg_none_of X G z17
  exact ⟨_, fun s v => .of_eq rfl, fun base _ _ => Q.law_ok t F0 ok_law tab_law⟩
end
end K
open PySem PySem.W PyProof.Rows
set_option maxHeartbeats 0 in
theorem PySem.Challenge.cw_layicons_k23_whole_rounds_of_orders_holds : PySem.Challenge.rw_layicons_k23_whole_rounds_of_orders.Holds := by
  w_on; o_law; k_head; (case hw => w_witness2)
  k_fill
  refine L2.walk_of (l := PySem.Challenge.rw_layicons_k23_whole_rounds_of_orders) (n := 63) (k := K.depth + 1) (x := "script") (CX := fun _ => L2.CX0) (sp := fun _ => Q.spC _ [] (Q.callN K.cst K.turns K.tab (K.depth + 1) "law")) rfl (by decide) rfl ⟨rfl, by decide, by decide⟩ (fun w h Y => PySem.W.kIn_of Y) ?F (fun _ H a ns hl hO hS => Q.script_ok hO hS (K.law_true ns hl).choose_spec) (fun _ _ _ _ _ h => h)
  case F =>
    intro w mg fa h KX G hmg
    refine' K.all_mk KX G hmg ?a0 ?l0 ?c0 ?k0 ?a1 ?l1 ?c1 ?k1 ?a2 ?l2 ?c2 ?k2 ?a3 ?l3 ?c3 ?k3 ?a4 ?l4 ?c4 ?k4 ?a5 ?l5 ?c5 ?k5 ?a6 ?l6 ?c6 ?k6 ?a7 ?l7 ?c7 ?k7 ?a8 ?l8 ?c8 ?k8 ?a9 ?l9 ?c9 ?k9 ?a10 ?l10 ?c10 ?k10 ?a11 ?l11 ?c11 ?k11 ?z0 ?z1 ?z2 ?z3 ?z4 ?z5 ?z6 ?z7 ?z8 ?z9 ?z10 ?z11 ?z12 ?z13 ?z14 ?z15 ?z16 ?z17
    (case a0 => k_is); (case l0 => k_is); (case c0 => k_is); (case k0 => k_is); (case a1 => k_is); (case l1 => k_is); (case c1 => k_is); (case k1 => k_is); (case a2 => k_is); (case l2 => k_is); (case c2 => k_is); (case k2 => k_is); (case a3 => k_is); (case l3 => k_is); (case c3 => k_is); (case k3 => k_is); (case a4 => k_is); (case l4 => k_is); (case c4 => k_is); (case k4 => k_is); (case a5 => k_is); (case l5 => k_is); (case c5 => k_is); (case k5 => k_is); (case a6 => k_is); (case l6 => k_is); (case c6 => k_is); (case k6 => k_is); (case a7 => k_is); (case l7 => k_is); (case c7 => k_is); (case k7 => k_is); (case a8 => k_is); (case l8 => k_is); (case c8 => k_is); (case k8 => k_is); (case a9 => k_is); (case l9 => k_is); (case c9 => k_is); (case k9 => k_is); (case a10 => k_is); (case l10 => k_is); (case c10 => k_is); (case k10 => k_is); (case a11 => k_is); (case l11 => k_is); (case c11 => k_is); (case k11 => k_is); (case z0 => k_is); (case z1 => k_is); (case z2 => k_is); (case z3 => k_is); (case z4 => k_is); (case z5 => k_is); (case z6 => k_is); (case z7 => k_is); (case z8 => k_is); (case z9 => k_is); (case z10 => k_is); (case z11 => k_is); (case z12 => k_is); (case z13 => k_is); (case z14 => k_is); (case z15 => k_is); (case z16 => k_is); (case z17 => k_is)
