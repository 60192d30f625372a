import PyProof.Rows.All
import HandS.ForMost
import HandS.Deep
import HandS.Conv
import HandS.TupAny
import HandS.TupLe
import PyProof.P3Statements
import PyProof.EqLayable
import HandS.SortInts
import HandS.Style
import HandS.SetKeys
import HandS.IsInst
import HandS.TupLen
import HandS.Zip
import HandS.Comp
import HandS.Small
import HandS.TupSets
import HandS.MakeKwOnly
import HandS.NamedTupSort
import KE.KDictZip
import KE.GoesEnum
import HandS.AnyAll
import PySem.Challenge.RW_dicespareminds_k02_how_many_dice_minds
set_option Elab.async false
section
set_option autoImplicit false
set_option linter.all false
/-! P0: a small functional language of the programs at hand, with its interpreter: values are plain data, own mutable lists are told by kind. -/
namespace PL
open PySem

abbrev D := PyData

/-- who owns a value: data (nobody changes it), the script (read only), an own list, an own dict, a tuple with own parts -/
inductive Kd where
  | d
  | s
  | l (k : Kd)
  | m (k : Kd)
  | t (ks : List Kd)

abbrev SV := Kd × D
abbrev Env := List (Option SV)

structure Exn where
  cls : Nat
  arg : D

/-- the outcome of a reckoning: a value, an exception, or nothing is told -/
inductive R (α : Type) where
  | ok (a : α)
  | ex (e : Exn)
  | no

@[inline] def R.bnd {α β : Type} (x : R α) (f : α → R β) : R β :=
  match x with
  | .ok a => f a
  | .ex e => .ex e
  | .no => .no
instance : Monad R where
  pure := R.ok
  bind := R.bnd

def sizeCap : Nat := 16777216

/-! ### operations on data -/
inductive Op where
  | add | sub | mul | fdiv | mod | pow | shl | shr | band | bor | neg
  | eq | ne | lt | le | gt | ge | isin | notin | isNone | notNone | isBool (b : Bool)
  | ix | rev
  | len | abs | int | min2 | max2 | minL | maxL | sum | any | all | sorted | tuple | list
  | isInt | isBoolT | isTuple | isStr | isList
  | rangeL (tup : Bool) (n : Nat)
  | index | get (dflt : Bool)
  | listZip3
  | setOf

/-- the k-th place of n, from the front or from behind -/
def ixN (n : Nat) (i : Int) : Option Nat :=
  if 0 ≤ i then (if i < n then some i.toNat else none) else if -(n : Int) ≤ i then some (i + n).toNat else none
def atI {α : Type} (xs : List α) (i : Int) : Option α := (ixN xs.length i).bind fun j => xs[j]?
def sIx (n d : Nat) : Option Int → Nat
  | none => d
  | some v => if v < 0 then (v + (n : Int)).toNat else min v.toNat n
def cut {α : Type} (xs : List α) (lo hi : Option Int) : List α :=
  (xs.drop (sIx xs.length 0 lo)).take (sIx xs.length xs.length hi - sIx xs.length 0 lo)

def intsOf : List D → Option (List Int)
  | [] => some []
  | .int i :: r => (intsOf r).map (i :: ·)
  | _ :: _ => none
def boolsOf : List D → Option (List Bool)
  | [] => some []
  | .bool b :: r => (boolsOf r).map (b :: ·)
  | _ :: _ => none
def tuplesOf : List D → Option (List (List Int))
  | [] => some []
  | .tuple xs :: r => match intsOf xs, tuplesOf r with
    | some a, some b => some (a :: b)
    | _, _ => none
  | _ :: _ => none
def lexLt : List Int → List Int → Bool
  | [], [] => false
  | [], _ :: _ => true
  | _ :: _, [] => false
  | x :: xs, y :: ys => if x = y then lexLt xs ys else decide (x < y)

abbrev Key := Sum Int Str
def atomKey : D → Option Key
  | .int i => some (.inl i)
  | .str s => some (.inr s)
  | _ => none
def atomKeys : List D → Option (List Key)
  | [] => some []
  | x :: r => match atomKey x, atomKeys r with
    | some a, some b => some (a :: b)
    | _, _ => none
/-- keys of dicts: whole numbers and texts, or tuples of them -/
inductive DKey where
  | a (k : Key)
  | t (ks : List Key)
  deriving DecidableEq
def dkey : D → Option DKey
  | .int i => some (.a (.inl i))
  | .str s => some (.a (.inr s))
  | .tuple xs => (atomKeys xs).map .t
  | _ => none
def lookK (kvs : List (D × D)) (k : DKey) : Option D := match kvs with
  | [] => none
  | (a, b) :: r => if dkey a = some k then some b else lookK r k
/-- in its place, or behind all others -/
def putK (kvs : List (D × D)) (kd : D) (k : DKey) (v : D) : List (D × D) :=
  if (kvs.any fun p => decide (dkey p.1 = some k)) = true then kvs.map (fun p => if dkey p.1 = some k then (p.1, v) else p) else kvs ++ [(kd, v)]

/-- whether a key is of the sort of a dict's keys -/
def sortOk (kvs : List (D × D)) (k : DKey) : Bool := match kvs with
  | [] => true
  | (a, _) :: _ => match dkey a, k with
    | some (.a _), .a _ => true
    | some (.t _), .t _ => true
    | _, _ => false
def look (kvs : List (D × D)) (x : D) : R (Option D) := match dkey x with
  | some k => if sortOk kvs k then .ok (lookK kvs k) else .no
  | none => .no
def insInt (x : Int) : List Int → List Int
  | [] => [x]
  | y :: ys => if x ≤ y then x :: y :: ys else y :: insInt x ys
def sortInts : List Int → List Int
  | [] => []
  | x :: xs => insInt x (sortInts xs)
def insLex (x : List Int) : List (List Int) → List (List Int)
  | [] => [x]
  | y :: ys => if lexLt y x then y :: insLex x ys else x :: y :: ys
def sortLex : List (List Int) → List (List Int)
  | [] => []
  | x :: xs => insLex x (sortLex xs)
def ofInts (ns : List Int) : List D := ns.map PyData.int
def ofTups (ts : List (List Int)) : List D := ts.map fun t => PyData.tuple (ofInts t)

/-- the kind of a value that was made just now -/
def fresh : D → Kd
  | .list _ => .l .d
  | .dict _ => .m .d
  | _ => .d
def mk (x : D) : R SV := .ok (fresh x, x)
def dat (x : D) : R SV := .ok (.d, x)
def tellB (b : Bool) : R SV := .ok (.d, .bool b)

def bitAnd (a b : Nat) : Nat := Nat.land a b
def lim (a : Int) : Bool := decide (-(2 ^ 64) < a) && decide (a < 2 ^ 64)
def small (a : Int) : Bool := decide (-(2 ^ 62) ≤ a) && decide (a < 2 ^ 62)

def eqD (a b : D) : R Bool := if SeqAt.shaped a && SeqAt.shaped b then .ok (PyData.eqv a b) else .no
def inD (x y : D) : R Bool := match y with
  | .list ds => if SeqAt.shaped x && SeqAt.shaped y then .ok (ds.any fun z => PyData.eqv z x) else .no
  | .tuple ds => if SeqAt.shaped x && SeqAt.shaped y then .ok (ds.any fun z => PyData.eqv z x) else .no
  | .dict kvs => do let r ← look kvs x; .ok r.isSome
  | _ => .no
def ltD (x y : D) : R Bool := match x, y with
  | .int a, .int b => .ok (decide (a < b))
  | .tuple a, .tuple b => match intsOf a, intsOf b with
    | some p, some q => .ok (lexLt p q)
    | _, _ => .no
  | _, _ => .no
def leD (x y : D) : R Bool := match x, y with
  | .int a, .int b => .ok (decide (a ≤ b))
  | .tuple a, .tuple b => match intsOf a, intsOf b with
    | some p, some q => .ok (!lexLt q p)
    | _, _ => .no
  | _, _ => .no
/-- a, a + 1, .. below b -/
def rangeUp (a b : Int) : List D := (List.range (b - a).toNat).map fun (i : Nat) => PyData.int (a + (i : Int))
/-- so many numbers from a on, by steps -/
def rangeN (n : Nat) (a s : Int) : List D := (List.range n).map fun (i : Nat) => PyData.int (a + (i : Int) * s)
/-- how many -/
def rangeMany (a b s : Int) : Nat :=
  if 0 < s then (if a < b then ((b - a - 1) / s + 1).toNat else 0) else (if b < a then ((a - b - 1) / (-s) + 1).toNat else 0)
def maxI : List Int → Int → Int
  | [], m => m
  | x :: xs, m => maxI xs (if x > m then x else m)
def minI : List Int → Int → Int
  | [], m => m
  | x :: xs, m => minI xs (if x < m then x else m)
def zip3 : List D → List D → List D → List D
  | a :: as, b :: bs, c :: cs => .tuple [a, b, c] :: zip3 as bs cs
  | _, _, _ => []
def firstAt (ds : List D) (x : D) : Nat → Option Nat
  | i => match ds with
    | [] => none
    | z :: r => if PyData.eqv z x then some i else firstAt r x (i + 1)

/-- an own list or dict whose parts are data -/
def flat : Kd → Bool
  | .d => true
  | .l .d => true
  | .m .d => true
  | _ => false

def isNoneD : D → Bool
  | .none => true
  | _ => false
def isBoolD (c : Bool) : D → Bool
  | .bool b => b == c
  | _ => false
def isIntT : D → Bool
  | .int _ => true
  | .bool _ => true
  | _ => false
def isBoolT : D → Bool
  | .bool _ => true
  | _ => false
def isTupT : D → Bool
  | .tuple _ => true
  | _ => false
def isStrT : D → Bool
  | .str _ => true
  | _ => false
def isLstT : D → Bool
  | .list _ => true
  | _ => false
def slD : List D → Option Int → Option Int → R SV
  | [.list a], lo, hi => mk (.list (cut a lo hi))
  | [.tuple a], lo, hi => mk (.tuple (cut a lo hi))
  | _, _, _ => .no
def opD : Op → List D → R SV
  | .add, [.int a, .int b] => dat (.int (a + b))
  | .add, [.list a, .list b] => if a.length + b.length ≤ sizeCap then mk (.list (a ++ b)) else .no
  | .add, [.tuple a, .tuple b] => if a.length + b.length ≤ sizeCap then dat (.tuple (a ++ b)) else .no
  | .sub, [.int a, .int b] => dat (.int (a - b))
  | .mul, [.int a, .int b] => if lim a || lim b then dat (.int (a * b)) else .no
  | .mul, [.list a, .int k] => if small k && decide (a.length * k.toNat ≤ sizeCap) then mk (.list (List.replicate k.toNat a).flatten) else .no
  | .fdiv, [.int a, .int b] => if b ≠ 0 ∧ b.natAbs < 1073741824 then dat (.int (a.fdiv b)) else .no
  | .mod, [.int a, .int b] => if b ≠ 0 then dat (.int (a.fmod b)) else .no
  | .pow, [.int a, .int b] => if 0 ≤ b ∧ b ≤ 1000000 ∧ a.natAbs < 2 ^ 64 then dat (.int (a ^ b.toNat)) else .no
  | .shl, [.int a, .int b] => if 0 ≤ b ∧ b ≤ 1000000 ∧ a.natAbs < 2 ^ 64 then dat (.int (a * 2 ^ b.toNat)) else .no
  | .shr, [.int a, .int b] => if 0 ≤ b then dat (.int (a / 2 ^ b.toNat)) else .no
  | .neg, [.int a] => dat (.int (-a))
  | .eq, [a, b] => do let r ← eqD a b; tellB r
  | .ne, [a, b] => do let r ← eqD a b; tellB (!r)
  | .lt, [a, b] => do let r ← ltD a b; tellB r
  | .le, [a, b] => do let r ← leD a b; tellB r
  | .gt, [.int a, .int b] => tellB (decide (b < a))
  | .ge, [.int a, .int b] => tellB (decide (b ≤ a))
  | .isin, [a, b] => do let r ← inD a b; tellB r
  | .notin, [a, b] => do let r ← inD a b; tellB (!r)
  | .isNone, [a] => tellB (isNoneD a)
  | .notNone, [a] => tellB (!isNoneD a)
  | .isBool c, [a] => tellB (isBoolD c a)
  | .ix, [.list a, .int i] => match atI a i with | some x => dat x | none => .no
  | .ix, [.tuple a, .int i] => match atI a i with | some x => dat x | none => .no
  | .ix, [.dict kvs, x] => do
    match ← look kvs x with
    | some v => dat v
    | none => .no
  | .len, [.list a] => dat (.int a.length)
  | .len, [.tuple a] => dat (.int a.length)
  | .len, [.dict a] => dat (.int a.length)
  | .abs, [.int a] => dat (.int (if a < 0 then -a else a))
  | .int, [.int a] => dat (.int a)
  | .min2, [.int a, .int b] => dat (.int (if b < a then b else a))
  | .max2, [.int a, .int b] => dat (.int (if b > a then b else a))
  | .maxL, [.list a] => match intsOf a with | some (x :: r) => dat (.int (maxI r x)) | _ => .no
  | .minL, [.list a] => match intsOf a with | some (x :: r) => dat (.int (minI r x)) | _ => .no
  | .sum, [.list a] => match intsOf a with | some ns => dat (.int ns.sum) | _ => .no
  | .any, [.list a] => match boolsOf a with | some bs => tellB (bs.any id) | _ => .no
  | .all, [.list a] => match boolsOf a with | some bs => tellB (bs.all id) | _ => .no
  | .sorted, [.list a] => match intsOf a with
    | some ns => mk (.list (ofInts (sortInts ns)))
    | none => match tuplesOf a with
      | some ts => mk (.list (ofTups (sortLex ts)))
      | none => .no
  | .tuple, [.list a] => dat (.tuple a)
  | .tuple, [.tuple a] => dat (.tuple a)
  | .list, [.list a] => mk (.list a)
  | .list, [.tuple a] => mk (.list a)
  | .isInt, [a] => tellB (isIntT a)
  | .isBoolT, [a] => tellB (isBoolT a)
  | .isTuple, [a] => tellB (isTupT a)
  | .isStr, [a] => tellB (isStrT a)
  | .isList, [a] => tellB (isLstT a)
  | .rangeL tp 1, [.int n] => if small n && decide (n.toNat ≤ sizeCap) then mk (if tp then .tuple (rangeUp 0 n) else .list (rangeUp 0 n)) else .no
  | .rangeL tp 2, [.int a, .int b] => if small a && small b && decide ((b - a).toNat ≤ sizeCap) then mk (if tp then .tuple (rangeUp a b) else .list (rangeUp a b)) else .no
  | .listZip3, [.list a, .list b, .list c] => mk (.list (zip3 a b c))
  | _, _ => .no

/-! ### the language -/
inductive PTg where
  | var (i : Nat)
  | tup (ts : List PTg)

mutual
inductive PE where
  | var (i : Nat)
  | int (n : Int) | bl (b : Bool) | non | str (s : Str)
  | tup (es : List PE) | lst (es : List PE)
  | dct
  | op (o : Op) (args : List PE)
  | slc (as : List PE) (bl : Bool) (lo : PE) (bh : Bool) (hi : PE)
  | call (f : Nat) (args : List PE)
  | and (a b : PE) | or (a b : PE) | not (a : PE)
  | ifx (c a b : PE)
  | pop (j : Nat)
  | popAt (j : Nat) (e : PE)
  | comp (elt : PE) (own : List Nat) (tg : PTg) (it : PIt) (cond : PE)
  | comp2 (elt : PE) (own : List Nat) (tg : PTg) (it : PIt) (cond : PE) (tg1 : PTg) (it1 : PIt) (cond1 : PE)
inductive PIt where
  | e (x : PE)
  | range1 (a : PE) | range2 (a b : PE) | range3 (a b c : PE)
  | enum (x : PE)
  | zip2 (x y : PE)
  | zip3 (x y z : PE)
end

inductive PS where
  | expr (e : PE)
  | asg (tg : PTg) (e : PE)
  | mv (i j : Nat)
  | par (is : List Nat) (es : List PE)
  | put (j : Nat) (i : PE) (e : PE)
  | aug (i : Nat) (o : Op) (e : PE)
  | app (j : Nat) (e : PE)
  | ext (j : Nat) (e : PE)
  | ret (e : PE)
  | retMv (j : Nat)
  | retN
  | ite (c : PE) (a b : List PS)
  | for_ (tg : PTg) (it : PIt) (body : List PS)
  | while_ (c : PE) (body : List PS)
  | brk | cont | pass

structure PDef where
  np : Nat
  ns : Nat
  body : List PS

/-- functions by number: outcome and the arguments as they are left -/
structure Tbl where
  fuel : Nat
  f : Nat → List SV → R (SV × List SV)

/-! ### the interpreter -/
mutual
/-- nothing of the script in it -/
def noS : Kd → Bool
  | .d => true
  | .s => false
  | .l k => noS k
  | .m k => noS k
  | .t ks => noSs ks
def noSs : List Kd → Bool
  | [] => true
  | k :: ks => noS k && noSs ks
end
def get (ρ : Env) (i : Nat) : R SV := match ρ[i]? with
  | some (some v) => .ok v
  | _ => .no
/-- read a slot as a value: what was its own is data from now on -/
def readV (ρ : Env) (i : Nat) : R (SV × Env) := match ρ[i]? with
  | some (some (.d, x)) => .ok ((.d, x), ρ)
  | some (some (k, x)) => if noS k then .ok ((.d, x), ρ.set i (some (.d, x))) else .no
  | _ => .no
def fill (ρ : Env) : List (Sum Nat D) → R (List SV)
  | [] => .ok []
  | .inl j :: r => do let v ← get ρ j; let vs ← fill ρ r; .ok (v :: vs)
  | .inr x :: r => do let vs ← fill ρ r; .ok ((.d, x) :: vs)
def isD : Kd → Bool
  | .d => true
  | _ => false
/-- own values by reference: each slot once -/
def ownRefs : List (Sum Nat D) → List SV → List Nat
  | .inl j :: r, (k, _) :: vs => if isD k then ownRefs r vs else j :: ownRefs r vs
  | .inr _ :: r, _ :: vs => ownRefs r vs
  | _, _ => []
def putBack (ρ : Env) : List (Sum Nat D) → List SV → List SV → Env
  | .inl j :: r, (k, _) :: vs, w :: ws => if isD k then putBack ρ r vs ws else putBack (ρ.set j (some w)) r vs ws
  | .inr _ :: r, _ :: vs, _ :: ws => putBack ρ r vs ws
  | _, _, _ => ρ
def nodupN : List Nat → Bool
  | [] => true
  | a :: r => !r.contains a && nodupN r
def setS (ρ : Env) (i : Nat) (v : SV) : R Env := if i < ρ.length then .ok (ρ.set i (some v)) else .no
mutual
def bindT : PTg → D → Env → R Env
  | .var i, x, ρ => setS ρ i (.d, x)
  | .tup ts, .tuple xs, ρ => bindTs ts xs ρ
  | .tup _, _, _ => .no
def bindTs : List PTg → List D → Env → R Env
  | [], [], ρ => .ok ρ
  | t :: ts, x :: xs, ρ => do let ρ1 ← bindT t x ρ; bindTs ts xs ρ1
  | _, _, _ => .no
end
mutual
def tgT : PTg → List Nat
  | .var i => [i]
  | .tup ts => tgTs ts
def tgTs : List PTg → List Nat
  | [] => []
  | t :: ts => tgT t ++ tgTs ts
end
def wipe (ρ : Env) : List Nat → Env
  | [] => ρ
  | v :: vs => (wipe ρ vs).set v none
/-- the slots vs as they were -/
def back (ρ0 ρ1 : Env) : List Nat → Env
  | [] => ρ1
  | v :: vs => back ρ0 (ρ1.set v (ρ0[v]?.getD none)) vs
/-- the slots vs hold nothing, or data -/
def wipeOk (ρ : Env) : List Nat → Bool
  | [] => true
  | v :: vs => (match ρ[v]? with
    | some none => true
    | some (some (.d, _)) => true
    | _ => false) && wipeOk ρ vs
def asBool : SV → R Bool
  | (.d, .bool b) => .ok b
  | _ => .no
def asList : D → R (List D)
  | .list xs => .ok xs
  | .tuple xs => .ok xs
  | _ => .no
def asL : D → R (List D)
  | .list xs => .ok xs
  | _ => .no
/-- two lists, or two tuples -/
def same2 : D → D → R (List D × List D)
  | .list xs, .list ys => .ok (xs, ys)
  | .tuple xs, .tuple ys => .ok (xs, ys)
  | _, _ => .no
def asInt : D → R Int
  | .int i => .ok i
  | _ => .no
def enumFrom (n : Nat) : List D → List D
  | [] => []
  | x :: xs => .tuple [.int (n : Int), x] :: enumFrom (n + 1) xs
def zip2 : List D → List D → List D
  | a :: as, b :: bs => .tuple [a, b] :: zip2 as bs
  | _, _ => []
def compLoop (turn : D → Env → R (Option D × Env)) : List D → Env → R (List D × Env)
  | [], ρ => .ok ([], ρ)
  | x :: xs, ρ => do
    let (o, ρ1) ← turn x ρ
    let (ys, ρ2) ← compLoop turn xs ρ1
    .ok (match o with | some y => y :: ys | none => ys, ρ2)
def compLoop2 (turn : D → Env → R (List D × Env)) : List D → Env → R (List D × Env)
  | [], ρ => .ok ([], ρ)
  | x :: xs, ρ => do
    let (y, ρ1) ← turn x ρ
    let (ys, ρ2) ← compLoop2 turn xs ρ1
    .ok (y ++ ys, ρ2)
def isRange : PIt → Bool
  | .range1 _ | .range2 _ _ | .range3 _ _ _ => true
  | _ => false
/-- what a comprehension walks is no longer than a list may be -/
def fits (it : PIt) (items : List D) : Bool := !isRange it || decide (items.length ≤ sizeCap)
/-- what may be asked of the script -/
def scrOp : Op → Bool
  | .len => true
  | .ix => true
  | _ => false
def isS : Kd → Bool
  | .s => true
  | _ => false
/-- one end of a slice -/
def pAt (b : Bool) (x : R (SV × Env)) (ρ : Env) : R (Option Int × Env) := if b then (do
  let (v, r) ← x
  let i ← asInt v.2
  .ok (some i, r)) else .ok (none, ρ)
def slV (vs : List SV) (lo hi : Option Int) : R SV := if vs.all (fun v => flat v.1) then slD (vs.map (·.2)) lo hi else .no
def opV (o : Op) (vs : List SV) : R SV := if vs.all (fun v => flat v.1 || (isS v.1 && scrOp o)) then opD o (vs.map (·.2)) else .no

mutual
def evalE (T : Tbl) : PE → Env → R (SV × Env)
  | .var i, ρ => readV ρ i
  | .int n, ρ => .ok ((.d, .int n), ρ)
  | .bl b, ρ => .ok ((.d, .bool b), ρ)
  | .non, ρ => .ok ((.d, .none), ρ)
  | .str s, ρ => .ok ((.d, .str s), ρ)
  | .tup es, ρ => do
    let (vs, ρ1) ← evalVs T es ρ
    .ok ((.d, .tuple vs), ρ1)
  | .lst es, ρ => do
    let (vs, ρ1) ← evalVs T es ρ
    .ok ((.l .d, .list vs), ρ1)
  | .dct, ρ => .ok ((.m .d, .dict []), ρ)
  | .op o args, ρ => do
    let (rs, ρ1) ← evalAs T args ρ
    let vs ← fill ρ1 rs
    let r ← opV o vs
    .ok (r, ρ1)
  | .slc as bl lo bh hi, ρ => do
    let (rs, ρ1) ← evalAs T as ρ
    let (l, ρ2) ← pAt bl (evalE T lo ρ1) ρ1
    let (h, ρ3) ← pAt bh (evalE T hi ρ2) ρ2
    let vs ← fill ρ3 rs
    let r ← slV vs l h
    .ok (r, ρ3)
  | .call f args, ρ => do
    let (rs, ρ1) ← evalAs T args ρ
    let vs ← fill ρ1 rs
    if nodupN (ownRefs rs vs) then do
      let (r, ws) ← T.f f vs
      if noS r.1 then .ok (r, putBack ρ1 rs vs ws) else .no
    else .no
  | .and a b, ρ => do
    let (v, ρ1) ← evalE T a ρ
    let c ← asBool v
    if c then evalE T b ρ1 else .ok ((.d, .bool false), ρ1)
  | .or a b, ρ => do
    let (v, ρ1) ← evalE T a ρ
    let c ← asBool v
    if c then .ok ((.d, .bool true), ρ1) else evalE T b ρ1
  | .not a, ρ => do
    let (v, ρ1) ← evalE T a ρ
    let c ← asBool v
    .ok ((.d, .bool (!c)), ρ1)
  | .ifx c a b, ρ => do
    let (v, ρ1) ← evalE T c ρ
    let t ← asBool v
    if t then evalE T a ρ1 else evalE T b ρ1
  | .pop j, ρ => do
    let (k, x) ← get ρ j
    match k, x with
    | .l .d, .list xs => match xs.getLast? with
      | some y => .ok ((.d, y), ρ.set j (some (.l .d, .list xs.dropLast)))
      | none => .no
    | _, _ => .no
  | .popAt j e, ρ => do
    let s0 ← get ρ j
    if isLstT s0.2 then do
     let (v, ρ1) ← evalE T e ρ
     let i ← asInt v.2
     let (k, x) ← get ρ1 j
     match k, x with
     | .l .d, .list xs => match ixN xs.length i with
       | some n => match xs[n]? with
         | some y => .ok ((.d, y), ρ1.set j (some (.l .d, .list (xs.eraseIdx n))))
         | none => .no
       | none => .no
     | _, _ => .no
    else .no
  | .comp elt own tg it cond, ρ => do
    let (items, ρ1) ← evalI T it ρ
    if fits it items && wipeOk ρ1 own then do
      let (ys, ρ2) ← compLoop (fun x r => do
        let r1 ← bindT tg x (wipe r own)
        let (c, r2) ← evalE T cond r1
        let b ← asBool c
        if b then do
          let (y, r3) ← evalE T elt r2
          .ok (some y.2, r3)
        else .ok (none, r2)) items (wipe ρ1 own)
      .ok ((.l .d, .list ys), back ρ1 ρ2 own)
    else .no
  | .comp2 elt own tg it cond tg1 it1 cond1, ρ => do
    let (items, ρ1) ← evalI T it ρ
    if wipeOk ρ1 own then do
     let (ys, ρ2) ← compLoop2 (fun x r => do
      let r1 ← bindT tg x (wipe r own)
      let (c, r2) ← evalE T cond r1
      let b ← asBool c
      if b then do
        let (inner, r3) ← evalI T it1 r2
        compLoop (fun y q => do
          let q1 ← bindT tg1 y (wipe q (tgT tg1))
          let (c1, q2) ← evalE T cond1 q1
          let b1 ← asBool c1
          if b1 then do
            let (z, q3) ← evalE T elt q2
            .ok (some z.2, q3)
          else .ok (none, q2)) inner r3
      else .ok ([], r2)) items (wipe ρ1 own)
     if ys.length ≤ sizeCap then .ok ((.l .d, .list ys), back ρ1 ρ2 own) else .no
    else .no
/-- values -/
def evalVs (T : Tbl) : List PE → Env → R (List D × Env)
  | [], ρ => .ok ([], ρ)
  | e :: es, ρ => do
    let (v, ρ1) ← evalE T e ρ
    let (vs, ρ2) ← evalVs T es ρ1
    .ok (v.2 :: vs, ρ2)
/-- arguments: a name by reference, other ones as data -/
def evalAs (T : Tbl) : List PE → Env → R (List (Sum Nat D) × Env)
  | [], ρ => .ok ([], ρ)
  | .var j :: es, ρ => do
    let _ ← get ρ j
    let (rs, ρ2) ← evalAs T es ρ
    .ok (.inl j :: rs, ρ2)
  | e :: es, ρ => do
    let (v, ρ1) ← evalE T e ρ
    let (rs, ρ2) ← evalAs T es ρ1
    .ok (.inr v.2 :: rs, ρ2)
def evalI (T : Tbl) : PIt → Env → R (List D × Env)
  | .e x, ρ => do
    let (v, ρ1) ← evalE T x ρ
    let xs ← asList v.2
    .ok (xs, ρ1)
  | .range1 a, ρ => do
    let (v, ρ1) ← evalE T a ρ
    let n ← asInt v.2
    if small n then .ok (rangeUp 0 n, ρ1) else .no
  | .range2 a b, ρ => do
    let (v, ρ1) ← evalE T a ρ
    let (w, ρ2) ← evalE T b ρ1
    let m ← asInt v.2
    let n ← asInt w.2
    if small m && small n then .ok (rangeUp m n, ρ2) else .no
  | .range3 a b c, ρ => do
    let (v, ρ1) ← evalE T a ρ
    let (w, ρ2) ← evalE T b ρ1
    let (u, ρ3) ← evalE T c ρ2
    let m ← asInt v.2
    let n ← asInt w.2
    let s ← asInt u.2
    if small m && small n && decide (s = -1) then .ok (rangeN (m - n).toNat m s, ρ3) else .no
  | .enum x, ρ => do
    let (v, ρ1) ← evalE T x ρ
    let xs ← asL v.2
    .ok (enumFrom 0 xs, ρ1)
  | .zip2 x y, ρ => do
    let (v, ρ1) ← evalE T x ρ
    let (w, ρ2) ← evalE T y ρ1
    let (xs, ys) ← same2 v.2 w.2
    .ok (zip2 xs ys, ρ2)
  | .zip3 x y z, ρ => do
    let (v, ρ1) ← evalE T x ρ
    let (w, ρ2) ← evalE T y ρ1
    let (u, ρ3) ← evalE T z ρ2
    let xs ← asList v.2
    let ys ← asList w.2
    let zs ← asList u.2
    .ok (zip3 xs ys zs, ρ3)
end

/-- how a statement ends -/
inductive Out where
  | nx (ρ : Env)
  | rt (v : SV) (ρ : Env)
  | bk (ρ : Env)
  | ct (ρ : Env)

def forLoop (turn : D → Env → R Out) : List D → Env → R Out
  | [], ρ => .ok (.nx ρ)
  | x :: xs, ρ => do
    match ← turn x ρ with
    | .nx r => forLoop turn xs r
    | .ct r => forLoop turn xs r
    | .bk r => .ok (.nx r)
    | .rt v r => .ok (.rt v r)
def whileLoop (cond : Env → R (Bool × Env)) (body : Env → R Out) : Nat → Env → R Out
  | 0, _ => .no
  | n + 1, ρ => do
    let (b, r) ← cond ρ
    if b then
      match ← body r with
      | .nx r => whileLoop cond body n r
      | .ct r => whileLoop cond body n r
      | .bk r => .ok (.nx r)
      | .rt v r => .ok (.rt v r)
    else .ok (.nx r)
def setAll (ρ : Env) : List Nat → List SV → R Env
  | [], [] => .ok ρ
  | i :: is, v :: vs => do let ρ1 ← setS ρ i v; setAll ρ1 is vs
  | _, _ => .no
def evalSVs (T : Tbl) : List PE → Env → R (List SV × Env)
  | [], ρ => .ok ([], ρ)
  | e :: es, ρ => do
    let (v, ρ1) ← evalE T e ρ
    let (vs, ρ2) ← evalSVs T es ρ1
    .ok (v :: vs, ρ2)

mutual
def execS (T : Tbl) : PS → Env → R Out
  | .expr e, ρ => do let (_, ρ1) ← evalE T e ρ; .ok (.nx ρ1)
  | .asg (.var i) e, ρ => do
    let (v, ρ1) ← evalE T e ρ
    let ρ2 ← setS ρ1 i v
    .ok (.nx ρ2)
  | .asg (.tup ts) e, ρ => do
    let (v, ρ1) ← evalE T e ρ
    let ρ2 ← bindT (.tup ts) v.2 ρ1
    .ok (.nx ρ2)
  | .mv i j, ρ => do
    let v ← get ρ j
    let ρ1 ← setS (ρ.set j none) i v
    .ok (.nx ρ1)
  | .par is es, ρ => do
    let (vs, ρ1) ← evalSVs T es ρ
    let ρ2 ← setAll ρ1 is vs
    .ok (.nx ρ2)
  | .put j i e, ρ => do
    let (v, ρ1) ← evalE T e ρ
    let _ ← get ρ1 j
    let (w, ρ2) ← evalE T i ρ1
    let (k, x) ← get ρ2 j
    match k, x with
    | .l .d, .list xs => do
      let a ← asInt w.2
      match ixN xs.length a with
      | some n => .ok (.nx (ρ2.set j (some (.l .d, .list (xs.set n v.2)))))
      | none => .no
    | .m .d, .dict kvs => match dkey w.2 with
      | some q => if sortOk kvs q && decide (kvs.length < sizeCap) then .ok (.nx (ρ2.set j (some (.m .d, .dict (putK kvs w.2 q v.2))))) else .no
      | none => .no
    | _, _ => .no
  | .aug i o e, ρ => do
    let _ ← get ρ i
    let (v, ρ1) ← evalE T e ρ
    let (k, x) ← get ρ1 i
    match k with
    | .d => match x, o with
      | .int a, .add => match v.2 with | .int b => .ok (.nx (ρ1.set i (some (.d, .int (a + b))))) | _ => .no
      | .int a, .sub => match v.2 with | .int b => .ok (.nx (ρ1.set i (some (.d, .int (a - b))))) | _ => .no
      | _, _ => .no
    | _ => .no
  | .app j e, ρ => do
    let s0 ← get ρ j
    if isLstT s0.2 then do
     let (v, ρ1) ← evalE T e ρ
     let (k, x) ← get ρ1 j
     match k, x with
     | .l .d, .list xs => if xs.length < sizeCap then .ok (.nx (ρ1.set j (some (.l .d, .list (xs ++ [v.2]))))) else .no
     | _, _ => .no
    else .no
  | .ext j e, ρ => do
    let s0 ← get ρ j
    if isLstT s0.2 then do
     let (v, ρ1) ← evalE T e ρ
     let (k, x) ← get ρ1 j
     match k, x with
     | .l .d, .list xs => match v.2 with
       | .list ys => if xs.length + ys.length ≤ sizeCap then .ok (.nx (ρ1.set j (some (.l .d, .list (xs ++ ys))))) else .no
       | _ => .no
     | _, _ => .no
    else .no
  | .ret e, ρ => do let (v, ρ1) ← evalE T e ρ; .ok (.rt v ρ1)
  | .retMv j, ρ => do
    let v ← get ρ j
    .ok (.rt v (ρ.set j none))
  | .retN, ρ => .ok (.rt (.d, .none) ρ)
  | .ite c a b, ρ => do
    let (v, ρ1) ← evalE T c ρ
    let t ← asBool v
    if t then execSs T a ρ1 else execSs T b ρ1
  | .for_ tg it body, ρ => do
    let (items, ρ1) ← evalI T it ρ
    forLoop (fun x r => do
      let r1 ← bindT tg x r
      execSs T body r1) items ρ1
  | .while_ c body, ρ => whileLoop (fun r => do
      let (v, r1) ← evalE T c r
      let b ← asBool v
      .ok (b, r1)) (fun r => execSs T body r) T.fuel ρ
  | .brk, ρ => .ok (.bk ρ)
  | .cont, ρ => .ok (.ct ρ)
  | .pass, ρ => .ok (.nx ρ)
def execSs (T : Tbl) : List PS → Env → R Out
  | [], ρ => .ok (.nx ρ)
  | s :: ss, ρ => do
    match ← execS T s ρ with
    | .nx r => execSs T ss r
    | o => .ok o
end

/-- what was handed in as its own, as it is left; data stays -/
def leave : List SV → Env → R (List SV)
  | [], _ => .ok []
  | (k, x) :: vs, ρ => match ρ with
    | o :: ρ' => do
      let r ← leave vs ρ'
      if isD k then .ok ((k, x) :: r) else match o with
        | some w => .ok (w :: r)
        | none => .no
    | [] => .no
/-! the slots that a target, a statement stores to -/
mutual
def tgS : PS → List Nat
  | .asg tg _ => tgT tg
  | .mv i _ => [i]
  | .par is _ => is
  | .aug i _ _ => [i]
  | .ite _ a b => tgSs a ++ tgSs b
  | .for_ tg _ body => tgT tg ++ tgSs body
  | .while_ _ body => tgSs body
  | _ => []
def tgSs : List PS → List Nat
  | [] => []
  | s :: ss => tgS s ++ tgSs ss
end
def ownPars (i : Nat) : List SV → List Nat
  | [] => []
  | (k, _) :: vs => if isD k then ownPars (i + 1) vs else i :: ownPars (i + 1) vs
def runDef (T : Tbl) (p : PDef) (args : List SV) : R (SV × List SV) :=
  if args.length = p.np ∧ p.np ≤ p.ns ∧ (ownPars 0 args).all (fun i => !(tgSs p.body).contains i) then do
    match ← execSs T p.body (args.map some ++ List.replicate (p.ns - p.np) none) with
    | .rt v ρ => do let ws ← leave args ρ; .ok (v, ws)
    | .nx ρ => do let ws ← leave args ρ; .ok ((.d, .none), ws)
    | _ => .no
  else .no
def tbl (fuel : Nat) (defs : Nat → Option PDef) : Nat → Tbl
  | 0 => ⟨fuel, fun _ _ => .no⟩
  | n + 1 => ⟨fuel, fun f args => match defs f with
    | some p => runDef (tbl fuel defs n) p args
    | none => .no⟩
end PL
end

section
set_option Elab.async false
set_option linter.all false
set_option maxRecDepth 100000
set_option autoImplicit false
/-! SA: how plain data stands in the abstract heap; own parts, frames. -/
namespace PL
open PySem PySem.Spec PyProof.Rows
open L2 (V Hp HO upd upd_same upd_ne SqL SqT Rd Same)

variable {K : PySem.W.Frag}

mutual
/-- data: nothing of it is among G (what somebody owns) -/
inductive Dat (K : PySem.W.Frag) (G : Addr → Prop) (H : Hp) : V → D → Prop
  | non : Dat K G H .non .none
  | bl (b : Bool) : Dat K G H (.bl b) (.bool b)
  | int (i : Int) : Dat K G H (.int i) (.int i)
  | str (x : Str) : Dat K G H (.str x) (.str x)
  | tup {a : Addr} {vs : List V} {ds : List D} : H a = some (.tup vs) → DatA K G H vs ds → Dat K G H (.ref a) (.tuple ds)
  | lst {a : Addr} {vs : List V} {ds : List D} : ¬ G a → H a = some (.lst vs) → DatA K G H vs ds → Dat K G H (.ref a) (.list ds)
  | dK {a : Addr} {kvs : List (L2.Key × V)} {kds : List (D × D)} : ¬ G a → H a = some (.dK kvs) → DatK K G H kvs kds → Dat K G H (.ref a) (.dict kds)
  | dT {a : Addr} {kvs : List (List L2.Key × V)} {kds : List (D × D)} : ¬ G a → H a = some (.dT kvs) → DatT K G H kvs kds → Dat K G H (.ref a) (.dict kds)
inductive DatA (K : PySem.W.Frag) (G : Addr → Prop) (H : Hp) : List V → List D → Prop
  | nil : DatA K G H [] []
  | cons {v : V} {vs : List V} {d : D} {ds : List D} : Dat K G H v d → DatA K G H vs ds → DatA K G H (v :: vs) (d :: ds)
inductive DatK (K : PySem.W.Frag) (G : Addr → Prop) (H : Hp) : List (L2.Key × V) → List (D × D) → Prop
  | nil : DatK K G H [] []
  | cons {k : L2.Key} {v : V} {r : List (L2.Key × V)} {kd d : D} {s : List (D × D)} : dkey kd = some (.a k) → Dat K G H v d → DatK K G H r s → DatK K G H ((k, v) :: r) ((kd, d) :: s)
inductive DatT (K : PySem.W.Frag) (G : Addr → Prop) (H : Hp) : List (List L2.Key × V) → List (D × D) → Prop
  | nil : DatT K G H [] []
  | cons {k : List L2.Key} {v : V} {r : List (List L2.Key × V)} {kd d : D} {s : List (D × D)} : dkey kd = some (.t k) → Dat K G H v d → DatT K G H r s → DatT K G H ((k, v) :: r) ((kd, d) :: s)
end

/-- all that is not among G stays, and is not among G' -/
structure Pres (K : PySem.W.Frag) (G : Addr → Prop) (H : Hp) (G' : Addr → Prop) (H' : Hp) : Prop where
  keep : ∀ a o, H a = some o → ¬ G a → H' a = some o ∧ ¬ G' a
  tups : ∀ a xs, H a = some (.tup xs) → H' a = some (.tup xs)

section
variable {G G' : Addr → Prop} {H H' : Hp}
theorem Pres.rd (p : Pres K G H G' H') {a : Addr} {u : HO} (h : Rd H a u) (g : ¬ G a) : Rd H' a u ∧ ¬ G' a := by
  rcases h with h | ⟨o, h⟩
  · exact ⟨.inl (p.keep _ _ h g).1, (p.keep _ _ h g).2⟩
  · exact ⟨.inr ⟨o, (p.keep _ _ h g).1⟩, (p.keep _ _ h g).2⟩
mutual
theorem Dat.pres (p : Pres K G H G' H') : ∀ (d : D) (v : V), Dat K G H v d → Dat K G' H' v d
  | .none, _, h => by cases h; exact .non
  | .bool _, _, h => by cases h; exact .bl _
  | .int _, _, h => by cases h; exact .int _
  | .str _, _, h => by cases h; exact .str _
  | .tuple ds, _, h => by
    cases h with
    | tup hs ha => exact .tup (p.tups _ _ hs) (DatA.pres p ds _ ha)
  | .list ds, _, h => by
    cases h with
    | lst g hs ha => exact .lst (p.keep _ _ hs g).2 (p.keep _ _ hs g).1 (DatA.pres p ds _ ha)
  | .dict ds, _, h => by
    cases h with
    | dK g hs ha => exact .dK (p.keep _ _ hs g).2 (p.keep _ _ hs g).1 (DatK.pres p ds _ ha)
    | dT g hs ha => exact .dT (p.keep _ _ hs g).2 (p.keep _ _ hs g).1 (DatT.pres p ds _ ha)
theorem DatA.pres (p : Pres K G H G' H') : ∀ (ds : List D) (vs : List V), DatA K G H vs ds → DatA K G' H' vs ds
  | [], _, h => by cases h; exact .nil
  | d :: ds, _, h => by
    cases h with
    | cons h1 h2 => exact .cons (Dat.pres p d _ h1) (DatA.pres p ds _ h2)
theorem DatK.pres (p : Pres K G H G' H') : ∀ (ds : List (D × D)) (vs : List (L2.Key × V)), DatK K G H vs ds → DatK K G' H' vs ds
  | [], _, h => by cases h; exact .nil
  | (kd, d) :: ds, _, h => by
    cases h with
    | cons e h1 h2 => exact .cons e (Dat.pres p d _ h1) (DatK.pres p ds _ h2)
theorem DatT.pres (p : Pres K G H G' H') : ∀ (ds : List (D × D)) (vs : List (List L2.Key × V)), DatT K G H vs ds → DatT K G' H' vs ds
  | [], _, h => by cases h; exact .nil
  | (kd, d) :: ds, _, h => by
    cases h with
    | cons e h1 h2 => exact .cons e (Dat.pres p d _ h1) (DatT.pres p ds _ h2)
end
/-- fewer things are owned -/
theorem Pres.less (h : ∀ a, G' a → G a) : Pres K G H G' H := ⟨fun _ _ e g => ⟨e, fun z => g (h _ z)⟩, fun _ _ e => e⟩

/-! ### lists of data -/
theorem DatA.len {vs : List V} {ds : List D} (h : DatA K G H vs ds) : vs.length = ds.length := by
  induction ds generalizing vs with
  | nil => cases h; rfl
  | cons d ds ih =>
    cases h with
    | cons h1 h2 => simp only [List.length_cons, ih h2]
theorem DatA.get {vs : List V} {ds : List D} (h : DatA K G H vs ds) {i : Nat} {d : D} (e : ds[i]? = some d) : ∃ v, vs[i]? = some v ∧ Dat K G H v d := by
  induction ds generalizing vs i with
  | nil => simp at e
  | cons x ds ih =>
    cases h with
    | cons h1 h2 =>
      cases i with
      | zero => simp at e; subst e; exact ⟨_, rfl, h1⟩
      | succ i =>
        obtain ⟨v, a, b⟩ := ih h2 (i := i) (by simpa using e)
        exact ⟨v, by simpa using a, b⟩
theorem DatA.getV {vs : List V} {ds : List D} (h : DatA K G H vs ds) {i : Nat} {v : V} (e : vs[i]? = some v) : ∃ d, ds[i]? = some d ∧ Dat K G H v d := by
  induction ds generalizing vs i with
  | nil => cases h; simp at e
  | cons x ds ih =>
    cases h with
    | cons h1 h2 =>
      cases i with
      | zero => simp at e; subst e; exact ⟨_, rfl, h1⟩
      | succ i =>
        obtain ⟨d, a, b⟩ := ih h2 (i := i) (by simpa using e)
        exact ⟨d, by simpa using a, b⟩
theorem DatA.app {vs ws : List V} {ds es : List D} (h : DatA K G H vs ds) (k : DatA K G H ws es) : DatA K G H (vs ++ ws) (ds ++ es) := by
  induction ds generalizing vs with
  | nil => cases h; exact k
  | cons d ds ih =>
    cases h with
    | cons h1 h2 => exact .cons h1 (ih h2)
theorem DatA.one {v : V} {d : D} (h : Dat K G H v d) : DatA K G H [v] [d] := .cons h .nil
theorem DatA.take {vs : List V} {ds : List D} (h : DatA K G H vs ds) (n : Nat) : DatA K G H (vs.take n) (ds.take n) := by
  induction ds generalizing vs n with
  | nil => cases h; simp; exact .nil
  | cons d ds ih =>
    cases h with
    | cons h1 h2 =>
      cases n with
      | zero => exact .nil
      | succ n => exact .cons h1 (ih h2 n)
theorem DatA.drop {vs : List V} {ds : List D} (h : DatA K G H vs ds) (n : Nat) : DatA K G H (vs.drop n) (ds.drop n) := by
  induction ds generalizing vs n with
  | nil => cases h; simp; exact .nil
  | cons d ds ih =>
    cases h with
    | cons h1 h2 =>
      cases n with
      | zero => exact .cons h1 h2
      | succ n => exact ih h2 n
theorem DatA.set {vs : List V} {ds : List D} {v : V} {d : D} (h : DatA K G H vs ds) (k : Dat K G H v d) (n : Nat) : DatA K G H (vs.set n v) (ds.set n d) := by
  induction ds generalizing vs n with
  | nil => cases h; exact .nil
  | cons x ds ih =>
    cases h with
    | cons h1 h2 =>
      cases n with
      | zero => exact .cons k h2
      | succ n => exact .cons h1 (ih h2 n)
theorem DatA.erase {vs : List V} {ds : List D} (h : DatA K G H vs ds) (n : Nat) : DatA K G H (vs.eraseIdx n) (ds.eraseIdx n) := by
  induction ds generalizing vs n with
  | nil => cases h; exact .nil
  | cons x ds ih =>
    cases h with
    | cons h1 h2 =>
      cases n with
      | zero => exact h2
      | succ n => exact .cons h1 (ih h2 n)
theorem DatA.dropLast {vs : List V} {ds : List D} (h : DatA K G H vs ds) : DatA K G H vs.dropLast ds.dropLast := by
  rw [List.dropLast_eq_take, List.dropLast_eq_take, h.len]
  exact h.take _
theorem DatA.cat {vss : List (List V)} {dss : List (List D)} (n : Nat) {vs : List V} {ds : List D} (h : DatA K G H vs ds) : DatA K G H (List.replicate n vs).flatten (List.replicate n ds).flatten := by
  induction n with
  | zero => exact .nil
  | succ n ih => simp only [List.replicate_succ, List.flatten_cons]; exact h.app ih
theorem ofInts_vs {ns : List Int} : DatA K G H (ns.map V.int) (ofInts ns) := by
  induction ns with
  | nil => exact .nil
  | cons n ns ih => exact .cons (.int n) ih
theorem DatA.ints {vs : List V} {ds : List D} {ns : List Int} (h : DatA K G H vs ds) (e : intsOf ds = some ns) : vs = ns.map V.int ∧ ds = ofInts ns := by
  induction ds generalizing vs ns with
  | nil => cases h; simp [intsOf] at e; subst e; exact ⟨rfl, rfl⟩
  | cons d ds ih =>
    cases h with
    | cons h1 h2 =>
      cases h1 <;> simp only [intsOf, Option.map_eq_some_iff, reduceCtorEq] at e
      obtain ⟨ms, e1, e2⟩ := e
      subst e2
      obtain ⟨a, b⟩ := ih h2 e1
      exact ⟨by simp [a], by simp [b, ofInts]⟩
theorem DatA.bools {vs : List V} {ds : List D} {bs : List Bool} (h : DatA K G H vs ds) (e : boolsOf ds = some bs) : vs = bs.map V.bl := by
  induction ds generalizing vs bs with
  | nil => cases h; simp [boolsOf] at e; subst e; rfl
  | cons d ds ih =>
    cases h with
    | cons h1 h2 =>
      cases h1 <;> simp only [boolsOf, Option.map_eq_some_iff, reduceCtorEq] at e
      obtain ⟨ms, e1, e2⟩ := e
      subst e2
      simp [ih h2 e1]

/-! ### dicts of data -/
theorem DatK.len {vs : List (L2.Key × V)} {ds : List (D × D)} (h : DatK K G H vs ds) : vs.length = ds.length := by
  induction ds generalizing vs with
  | nil => cases h; rfl
  | cons d ds ih =>
    obtain ⟨_, _⟩ := d
    cases h with
    | cons _ h1 h2 => simp only [List.length_cons, ih h2]
theorem DatT.len {vs : List (List L2.Key × V)} {ds : List (D × D)} (h : DatT K G H vs ds) : vs.length = ds.length := by
  induction ds generalizing vs with
  | nil => cases h; rfl
  | cons d ds ih =>
    obtain ⟨_, _⟩ := d
    cases h with
    | cons _ h1 h2 => simp only [List.length_cons, ih h2]
end

/-! ### own things -/
/-- the script: an object of the module, or told by its object -/
def Scr (K : PySem.W.Frag) (G : Addr → Prop) (H : Hp) (a : Addr) (vs : List V) : Prop := (¬ G a ∧ ∃ o, H a = some (.frz o (.lst vs))) ∨ SqL K (fun _ => none) a vs
theorem Scr.seq {G : Addr → Prop} {H : Hp} {a : Addr} {vs : List V} (h : Scr K G H a vs) : SqL K H a vs := by
  rcases h with ⟨_, o, h⟩ | (h | ⟨_, h⟩) | h
  · exact .inl (.inr ⟨o, h⟩)
  · cases h
  · cases h
  · exact .inr h
theorem Scr.pres {G G' : Addr → Prop} {H H' : Hp} {a : Addr} {vs : List V} (p : Pres K G H G' H') (h : Scr K G H a vs) : Scr K G' H' a vs := by
  rcases h with ⟨g, o, h⟩ | h
  · exact .inl ⟨(p.keep _ _ h g).2, o, (p.keep _ _ h g).1⟩
  · exact .inr h
mutual
inductive Own (K : PySem.W.Frag) (G : Addr → Prop) (H : Hp) : Kd → V → D → List Addr → Prop
  | d {v : V} {x : D} : Dat K G H v x → Own K G H .d v x []
  | s {a : Addr} {ds : List D} {vs : List V} : Scr K G H a vs → DatA K G H vs ds → Own K G H .s (.ref a) (.list ds) []
  | l {k : Kd} {a : Addr} {vs : List V} {ds : List D} {F : List Addr} : H a = some (.lst vs) → OwnA K G H k vs ds F → Own K G H (.l k) (.ref a) (.list ds) (a :: F)
  | mK {k : Kd} {a : Addr} {kvs : List (L2.Key × V)} {kds : List (D × D)} {F : List Addr} : H a = some (.dK kvs) → OwnK K G H k kvs kds F → Own K G H (.m k) (.ref a) (.dict kds) (a :: F)
  | mT {k : Kd} {a : Addr} {kvs : List (List L2.Key × V)} {kds : List (D × D)} {F : List Addr} : H a = some (.dT kvs) → OwnT K G H k kvs kds F → Own K G H (.m k) (.ref a) (.dict kds) (a :: F)
  | t {ks : List Kd} {a : Addr} {vs : List V} {ds : List D} {F : List Addr} : H a = some (.tup vs) → OwnP K G H ks vs ds F → Own K G H (.t ks) (.ref a) (.tuple ds) F
inductive OwnA (K : PySem.W.Frag) (G : Addr → Prop) (H : Hp) : Kd → List V → List D → List Addr → Prop
  | nil {k : Kd} : OwnA K G H k [] [] []
  | cons {k : Kd} {v : V} {vs : List V} {x : D} {xs : List D} {F F' : List Addr} : Own K G H k v x F → OwnA K G H k vs xs F' → OwnA K G H k (v :: vs) (x :: xs) (F ++ F')
inductive OwnK (K : PySem.W.Frag) (G : Addr → Prop) (H : Hp) : Kd → List (L2.Key × V) → List (D × D) → List Addr → Prop
  | nil {k : Kd} : OwnK K G H k [] [] []
  | cons {k : Kd} {q : L2.Key} {v : V} {vs : List (L2.Key × V)} {qd x : D} {xs : List (D × D)} {F F' : List Addr} : dkey qd = some (.a q) → Own K G H k v x F → OwnK K G H k vs xs F' → OwnK K G H k ((q, v) :: vs) ((qd, x) :: xs) (F ++ F')
inductive OwnT (K : PySem.W.Frag) (G : Addr → Prop) (H : Hp) : Kd → List (List L2.Key × V) → List (D × D) → List Addr → Prop
  | nil {k : Kd} : OwnT K G H k [] [] []
  | cons {k : Kd} {q : List L2.Key} {v : V} {vs : List (List L2.Key × V)} {qd x : D} {xs : List (D × D)} {F F' : List Addr} : dkey qd = some (.t q) → Own K G H k v x F → OwnT K G H k vs xs F' → OwnT K G H k ((q, v) :: vs) ((qd, x) :: xs) (F ++ F')
inductive OwnP (K : PySem.W.Frag) (G : Addr → Prop) (H : Hp) : List Kd → List V → List D → List Addr → Prop
  | nil : OwnP K G H [] [] [] []
  | cons {k : Kd} {ks : List Kd} {v : V} {vs : List V} {x : D} {xs : List D} {F F' : List Addr} : Own K G H k v x F → OwnP K G H ks vs xs F' → OwnP K G H (k :: ks) (v :: vs) (x :: xs) (F ++ F')
end
/-- what may be owned: lists, dicts -/
def IsMut : HO → Prop
  | .lst _ => True
  | .dK _ => True
  | .dT _ => True
  | _ => False

section
variable {G G' : Addr → Prop} {H H' : Hp}
mutual
/-- own things stand where they stood -/
theorem Own.pres (p : Pres K G H G' H') : ∀ (x : D) (k : Kd) (v : V) (F : List Addr), (∀ a ∈ F, H' a = H a) → Own K G H k v x F → Own K G' H' k v x F
  | x, _, _, _, _, .d h => .d (Dat.pres p x _ h)
  | .list ds, _, _, _, _, .s e h => .s (e.pres p) (DatA.pres p ds _ h)
  | .list ds, _, _, _, f, .l e h => .l ((f _ List.mem_cons_self).trans e) (OwnA.pres p ds _ _ _ (fun a ha => f a (List.mem_cons_of_mem _ ha)) h)
  | .dict ds, _, _, _, f, .mK e h => .mK ((f _ List.mem_cons_self).trans e) (OwnK.pres p ds _ _ _ (fun a ha => f a (List.mem_cons_of_mem _ ha)) h)
  | .dict ds, _, _, _, f, .mT e h => .mT ((f _ List.mem_cons_self).trans e) (OwnT.pres p ds _ _ _ (fun a ha => f a (List.mem_cons_of_mem _ ha)) h)
  | .tuple ds, _, _, _, f, .t e h => .t (p.tups _ _ e) (OwnP.pres p ds _ _ _ f h)
theorem OwnA.pres (p : Pres K G H G' H') : ∀ (xs : List D) (k : Kd) (vs : List V) (F : List Addr), (∀ a ∈ F, H' a = H a) → OwnA K G H k vs xs F → OwnA K G' H' k vs xs F
  | [], _, _, _, _, .nil => .nil
  | x :: xs, _, _, _, f, .cons h1 h2 => .cons (Own.pres p x _ _ _ (fun a ha => f a (List.mem_append_left _ ha)) h1) (OwnA.pres p xs _ _ _ (fun a ha => f a (List.mem_append_right _ ha)) h2)
theorem OwnK.pres (p : Pres K G H G' H') : ∀ (xs : List (D × D)) (k : Kd) (vs : List (L2.Key × V)) (F : List Addr), (∀ a ∈ F, H' a = H a) → OwnK K G H k vs xs F → OwnK K G' H' k vs xs F
  | [], _, _, _, _, .nil => .nil
  | (_, x) :: xs, _, _, _, f, .cons e h1 h2 => .cons e (Own.pres p x _ _ _ (fun a ha => f a (List.mem_append_left _ ha)) h1) (OwnK.pres p xs _ _ _ (fun a ha => f a (List.mem_append_right _ ha)) h2)
theorem OwnT.pres (p : Pres K G H G' H') : ∀ (xs : List (D × D)) (k : Kd) (vs : List (List L2.Key × V)) (F : List Addr), (∀ a ∈ F, H' a = H a) → OwnT K G H k vs xs F → OwnT K G' H' k vs xs F
  | [], _, _, _, _, .nil => .nil
  | (_, x) :: xs, _, _, _, f, .cons e h1 h2 => .cons e (Own.pres p x _ _ _ (fun a ha => f a (List.mem_append_left _ ha)) h1) (OwnT.pres p xs _ _ _ (fun a ha => f a (List.mem_append_right _ ha)) h2)
theorem OwnP.pres (p : Pres K G H G' H') : ∀ (xs : List D) (ks : List Kd) (vs : List V) (F : List Addr), (∀ a ∈ F, H' a = H a) → OwnP K G H ks vs xs F → OwnP K G' H' ks vs xs F
  | [], _, _, _, _, .nil => .nil
  | x :: xs, _, _, _, f, .cons h1 h2 => .cons (Own.pres p x _ _ _ (fun a ha => f a (List.mem_append_left _ ha)) h1) (OwnP.pres p xs _ _ _ (fun a ha => f a (List.mem_append_right _ ha)) h2)
end
mutual
/-- an own thing is given away: it is data from now on -/
theorem Own.freeze (hle : ∀ a, G' a → G a) : ∀ (x : D) (k : Kd) (v : V) (F : List Addr), noS k = true → (∀ a ∈ F, ¬ G' a) → Own K G H k v x F → Dat K G' H v x
  | x, _, _, _, _, _, .d h => Dat.pres (Pres.less hle) x _ h
  | .list ds, _, _, _, n, _, .s e h => by cases n
  | .list ds, .l k, _, _, n, f, .l e h => .lst (f _ List.mem_cons_self) e (OwnA.freeze hle ds k _ _ n (fun a ha => f a (List.mem_cons_of_mem _ ha)) h)
  | .dict ds, .m k, _, _, n, f, .mK e h => .dK (f _ List.mem_cons_self) e (OwnK.freeze hle ds k _ _ n (fun a ha => f a (List.mem_cons_of_mem _ ha)) h)
  | .dict ds, .m k, _, _, n, f, .mT e h => .dT (f _ List.mem_cons_self) e (OwnT.freeze hle ds k _ _ n (fun a ha => f a (List.mem_cons_of_mem _ ha)) h)
  | .tuple ds, .t ks, _, _, n, f, .t e h => .tup e (OwnP.freeze hle ds ks _ _ n f h)
theorem OwnA.freeze (hle : ∀ a, G' a → G a) : ∀ (xs : List D) (k : Kd) (vs : List V) (F : List Addr), noS k = true → (∀ a ∈ F, ¬ G' a) → OwnA K G H k vs xs F → DatA K G' H vs xs
  | [], _, _, _, _, _, .nil => .nil
  | x :: xs, _, _, _, n, f, .cons h1 h2 => .cons (Own.freeze hle x _ _ _ n (fun a ha => f a (List.mem_append_left _ ha)) h1) (OwnA.freeze hle xs _ _ _ n (fun a ha => f a (List.mem_append_right _ ha)) h2)
theorem OwnK.freeze (hle : ∀ a, G' a → G a) : ∀ (xs : List (D × D)) (k : Kd) (vs : List (L2.Key × V)) (F : List Addr), noS k = true → (∀ a ∈ F, ¬ G' a) → OwnK K G H k vs xs F → DatK K G' H vs xs
  | [], _, _, _, _, _, .nil => .nil
  | (_, x) :: xs, _, _, _, n, f, .cons e h1 h2 => .cons e (Own.freeze hle x _ _ _ n (fun a ha => f a (List.mem_append_left _ ha)) h1) (OwnK.freeze hle xs _ _ _ n (fun a ha => f a (List.mem_append_right _ ha)) h2)
theorem OwnT.freeze (hle : ∀ a, G' a → G a) : ∀ (xs : List (D × D)) (k : Kd) (vs : List (List L2.Key × V)) (F : List Addr), noS k = true → (∀ a ∈ F, ¬ G' a) → OwnT K G H k vs xs F → DatT K G' H vs xs
  | [], _, _, _, _, _, .nil => .nil
  | (_, x) :: xs, _, _, _, n, f, .cons e h1 h2 => .cons e (Own.freeze hle x _ _ _ n (fun a ha => f a (List.mem_append_left _ ha)) h1) (OwnT.freeze hle xs _ _ _ n (fun a ha => f a (List.mem_append_right _ ha)) h2)
theorem OwnP.freeze (hle : ∀ a, G' a → G a) : ∀ (xs : List D) (ks : List Kd) (vs : List V) (F : List Addr), noSs ks = true → (∀ a ∈ F, ¬ G' a) → OwnP K G H ks vs xs F → DatA K G' H vs xs
  | [], _, _, _, _, _, .nil => .nil
  | x :: xs, k :: ks, _, _, n, f, .cons h1 h2 => .cons (Own.freeze hle x _ _ _ (Bool.and_eq_true_iff.mp n).1 (fun a ha => f a (List.mem_append_left _ ha)) h1) (OwnP.freeze hle xs _ _ _ (Bool.and_eq_true_iff.mp n).2 (fun a ha => f a (List.mem_append_right _ ha)) h2)
end
mutual
/-- what is owned stands in the heap, and may be changed -/
theorem Own.foot : ∀ (x : D) (k : Kd) (v : V) (F : List Addr), Own K G H k v x F → ∀ a ∈ F, ∃ o, H a = some o ∧ IsMut o
  | _, _, _, _, .d _, a, ha => nomatch ha
  | _, _, _, _, .s _ _, a, ha => nomatch ha
  | .list ds, _, _, _, .l e h, a, ha => (List.mem_cons.mp ha).elim (fun z => ⟨.lst _, z ▸ e, trivial⟩) fun z => OwnA.foot ds _ _ _ h a z
  | .dict ds, _, _, _, .mK e h, a, ha => (List.mem_cons.mp ha).elim (fun z => ⟨.dK _, z ▸ e, trivial⟩) fun z => OwnK.foot ds _ _ _ h a z
  | .dict ds, _, _, _, .mT e h, a, ha => (List.mem_cons.mp ha).elim (fun z => ⟨.dT _, z ▸ e, trivial⟩) fun z => OwnT.foot ds _ _ _ h a z
  | .tuple ds, _, _, _, .t e h, a, ha => OwnP.foot ds _ _ _ h a ha
theorem OwnA.foot : ∀ (xs : List D) (k : Kd) (vs : List V) (F : List Addr), OwnA K G H k vs xs F → ∀ a ∈ F, ∃ o, H a = some o ∧ IsMut o
  | [], _, _, _, .nil, a, ha => nomatch ha
  | x :: xs, _, _, _, .cons h1 h2, a, ha => (List.mem_append.mp ha).elim (fun z => Own.foot x _ _ _ h1 a z) fun z => OwnA.foot xs _ _ _ h2 a z
theorem OwnK.foot : ∀ (xs : List (D × D)) (k : Kd) (vs : List (L2.Key × V)) (F : List Addr), OwnK K G H k vs xs F → ∀ a ∈ F, ∃ o, H a = some o ∧ IsMut o
  | [], _, _, _, .nil, a, ha => nomatch ha
  | (_, x) :: xs, _, _, _, .cons _ h1 h2, a, ha => (List.mem_append.mp ha).elim (fun z => Own.foot x _ _ _ h1 a z) fun z => OwnK.foot xs _ _ _ h2 a z
theorem OwnT.foot : ∀ (xs : List (D × D)) (k : Kd) (vs : List (List L2.Key × V)) (F : List Addr), OwnT K G H k vs xs F → ∀ a ∈ F, ∃ o, H a = some o ∧ IsMut o
  | [], _, _, _, .nil, a, ha => nomatch ha
  | (_, x) :: xs, _, _, _, .cons _ h1 h2, a, ha => (List.mem_append.mp ha).elim (fun z => Own.foot x _ _ _ h1 a z) fun z => OwnT.foot xs _ _ _ h2 a z
theorem OwnP.foot : ∀ (xs : List D) (ks : List Kd) (vs : List V) (F : List Addr), OwnP K G H ks vs xs F → ∀ a ∈ F, ∃ o, H a = some o ∧ IsMut o
  | [], _, _, _, .nil, a, ha => nomatch ha
  | x :: xs, _, _, _, .cons h1 h2, a, ha => (List.mem_append.mp ha).elim (fun z => Own.foot x _ _ _ h1 a z) fun z => OwnP.foot xs _ _ _ h2 a z
end
/-- own lists of data, from both sides -/
theorem OwnA.dat : ∀ {xs : List D} {vs : List V} {F : List Addr}, OwnA K G H .d vs xs F → DatA K G H vs xs ∧ F = []
  | [], _, _, .nil => ⟨.nil, rfl⟩
  | x :: xs, _, _, .cons h1 h2 => by
    cases h1 with
    | d h => obtain ⟨a, b⟩ := OwnA.dat h2; exact ⟨.cons h a, by simp [b]⟩
theorem OwnA.of : ∀ {xs : List D} {vs : List V}, DatA K G H vs xs → OwnA K G H .d vs xs []
  | [], _, .nil => .nil
  | x :: xs, _, .cons h1 h2 => .cons (F := []) (F' := []) (.d h1) (OwnA.of h2)
theorem OwnK.dat : ∀ {xs : List (D × D)} {vs : List (L2.Key × V)} {F : List Addr}, OwnK K G H .d vs xs F → DatK K G H vs xs ∧ F = []
  | [], _, _, .nil => ⟨.nil, rfl⟩
  | (_, x) :: xs, _, _, .cons e h1 h2 => by
    cases h1 with
    | d h => obtain ⟨a, b⟩ := OwnK.dat h2; exact ⟨.cons e h a, by simp [b]⟩
theorem OwnK.of : ∀ {xs : List (D × D)} {vs : List (L2.Key × V)}, DatK K G H vs xs → OwnK K G H .d vs xs []
  | [], _, .nil => .nil
  | (_, x) :: xs, _, .cons e h1 h2 => .cons (F := []) (F' := []) e (.d h1) (OwnK.of h2)
theorem OwnT.dat : ∀ {xs : List (D × D)} {vs : List (List L2.Key × V)} {F : List Addr}, OwnT K G H .d vs xs F → DatT K G H vs xs ∧ F = []
  | [], _, _, .nil => ⟨.nil, rfl⟩
  | (_, x) :: xs, _, _, .cons e h1 h2 => by
    cases h1 with
    | d h => obtain ⟨a, b⟩ := OwnT.dat h2; exact ⟨.cons e h a, by simp [b]⟩
theorem OwnT.of : ∀ {xs : List (D × D)} {vs : List (List L2.Key × V)}, DatT K G H vs xs → OwnT K G H .d vs xs []
  | [], _, .nil => .nil
  | (_, x) :: xs, _, .cons e h1 h2 => .cons (F := []) (F' := []) e (.d h1) (OwnT.of h2)
end
end PL
end

section
set_option Elab.async false
set_option linter.all false
set_option maxRecDepth 100000
set_option autoImplicit false
/-! SB: the slots of a def over the heap: each own thing apart from all others. -/
namespace PL
open PySem PySem.Spec PyProof.Rows
open L2 (V Hp HO upd upd_same upd_ne SqL SqT Rd Same)
variable {K : PySem.W.Frag}

/-- the slots, with what each owns -/
inductive Slots (K : PySem.W.Frag) (G : Addr → Prop) (H : Hp) : List (Option V) → Env → List (List Addr) → Prop
  | nil : Slots K G H [] [] []
  | non {o : Option V} {σ : List (Option V)} {ρ : Env} {Fs : List (List Addr)} : Slots K G H σ ρ Fs → Slots K G H (o :: σ) (none :: ρ) ([] :: Fs)
  | som {v : V} {k : Kd} {x : D} {F : List Addr} {σ : List (Option V)} {ρ : Env} {Fs : List (List Addr)} : Own K G H k v x F → Slots K G H σ ρ Fs → Slots K G H (some v :: σ) (some (k, x) :: ρ) (F :: Fs)

/-- what is owned: by the rest R of the world, or here -/
def GG (R : Addr → Prop) (F : List Addr) : Addr → Prop := fun a => R a ∨ a ∈ F
/-- lists and tuples have a largest length -/
def HLen (H : Hp) : Prop := ∀ a vs, (H a = some (.lst vs) ∨ H a = some (.tup vs)) → vs.length ≤ sizeLine
structure StOk (K : PySem.W.Frag) (R : Addr → Prop) (σ : List (Option V)) (ρ : Env) (Fs : List (List Addr)) (H : Hp) : Prop where
  slots : Slots K (GG R Fs.flatten) H σ ρ Fs
  nd : Fs.flatten.Nodup
  dis : ∀ a ∈ Fs.flatten, ¬ R a
  rdom : ∀ a, R a → ∃ o, H a = some o
  len : HLen H

/-- from one state to a later one: only what is owned here may have changed, and what is new is owned or free -/
structure Step (K : PySem.W.Frag) (F : List Addr) (H : Hp) (F' : List Addr) (H' : Hp) : Prop where
  keep : ∀ a o, H a = some o → a ∉ F → H' a = some o
  tups : ∀ a xs, H a = some (.tup xs) → H' a = some (.tup xs)
  new : ∀ a ∈ F', a ∈ F ∨ H a = none

section
variable {G G' R R' : Addr → Prop} {H H' H1 H2 : Hp} {σ : List (Option V)} {ρ : Env} {Fs Fs' : List (List Addr)} {F F1 F2 F' : List Addr}
theorem Step.refl : Step K F H F H := ⟨fun _ _ h _ => h, fun _ _ h => h, fun _ h => .inl h⟩
theorem Step.trans (a : Step K F H F1 H1) (b : Step K F1 H1 F2 H2) : Step K F H F2 H2 where
  keep := fun c o h n => b.keep c o (a.keep c o h n) fun z => by
    rcases a.new c z with z | z
    · exact n z
    · rw [z] at h; cases h
  tups := fun c xs h => b.tups c xs (a.tups c xs h)
  new := fun c z => by
    rcases b.new c z with z | z
    · exact a.new c z
    · cases e : H c with
      | none => exact .inr rfl
      | some o =>
        by_cases hc : c ∈ F
        · exact .inl hc
        · rw [a.keep c o e hc] at z; cases z
theorem Step.sub (a : Step K F H F1 H1) (h : ∀ x ∈ F2, x ∈ F1) : Step K F H F2 H1 := ⟨a.keep, a.tups, fun x z => a.new x (h x z)⟩
theorem Step.more (a : Step K F H F1 H1) (h : ∀ x ∈ F, x ∈ F2) (h' : ∀ x ∈ F', x ∈ F1 ∨ x ∈ F2) : Step K F2 H F' H1 :=
  ⟨fun c o e n => a.keep c o e fun z => n (h c z), a.tups, fun c z => (h' c z).elim (fun y => (a.new c y).imp (h c) id) .inl⟩
theorem SqT.same (s : Same H H') {a : Addr} {xs : List V} (h : SqT K H a xs) : SqT K H' a xs := by
  rcases h with (h | ⟨o, h⟩) | h
  · exact .inl (.inl (s _ _ h))
  · exact .inl (.inr ⟨o, s _ _ h⟩)
  · exact .inr h
theorem Step.same (s : Same H H') (h : ∀ x ∈ F', x ∈ F ∨ H x = none) : Step K F H F' H' := ⟨fun _ _ e _ => s _ _ e, fun _ _ e => s _ _ e, h⟩
/-- data stay data -/
theorem Step.pres (st : Step K F H F' H') (hR : ∀ a, R' a → R a ∨ H a = none) : Pres K (GG R F) H (GG R' F') H' where
  keep := fun a o e g => ⟨st.keep a o e fun z => g (.inr z), fun z => by
    rcases z with z | z
    · rcases hR a z with z | z
      · exact g (.inl z)
      · rw [z] at e; cases e
    · rcases st.new a z with z | z
      · exact g (.inr z)
      · rw [z] at e; cases e⟩
  tups := st.tups
theorem Step.same' (st : Step K [] H F' H') : Same H H' := fun a o e => st.keep a o e (by simp)

theorem Slots.len (h : Slots K G H σ ρ Fs) : σ.length = ρ.length ∧ Fs.length = ρ.length := by
  induction h with
  | nil => exact ⟨rfl, rfl⟩
  | non _ ih => simp [ih.1, ih.2]
  | som _ _ ih => simp [ih.1, ih.2]
theorem Slots.pres (p : Pres K G H G' H') (h : Slots K G H σ ρ Fs) (f : ∀ a ∈ Fs.flatten, H' a = H a) : Slots K G' H' σ ρ Fs := by
  induction h with
  | nil => exact .nil
  | non _ ih => exact .non (ih fun a ha => f a (by simpa using ha))
  | som h1 _ ih => exact .som (Own.pres p _ _ _ _ (fun a ha => f a (by simp [ha])) h1) (ih fun a ha => f a (by
      rw [List.flatten_cons]; exact List.mem_append_right _ ha))
theorem Slots.foot (h : Slots K G H σ ρ Fs) : ∀ a ∈ Fs.flatten, ∃ o, H a = some o ∧ IsMut o := by
  induction h with
  | nil => intro a ha; cases ha
  | non _ ih => intro a ha; exact ih a (by simpa using ha)
  | som h1 _ ih =>
    intro a ha
    rw [List.flatten_cons] at ha
    exact (List.mem_append.mp ha).elim (Own.foot _ _ _ _ h1 a) (ih a)
/-- a slot that holds something -/
theorem Slots.get (h : Slots K G H σ ρ Fs) {i : Nat} {k : Kd} {x : D} (e : ρ[i]? = some (some (k, x))) : ∃ v F, σ[i]? = some (some v) ∧ Fs[i]? = some F ∧ Own K G H k v x F := by
  induction h generalizing i with
  | nil => simp at e
  | non _ ih =>
    cases i with
    | zero => simp at e
    | succ i => obtain ⟨v, F, a, b, c⟩ := ih (i := i) (by simpa using e); exact ⟨v, F, by simpa using a, by simpa using b, c⟩
  | som h1 _ ih =>
    cases i with
    | zero => simp at e; obtain ⟨rfl, rfl⟩ := e; exact ⟨_, _, rfl, rfl, h1⟩
    | succ i => obtain ⟨v, F, a, b, c⟩ := ih (i := i) (by simpa using e); exact ⟨v, F, by simpa using a, by simpa using b, c⟩
/-- a slot is stored to -/
theorem Slots.set (h : Slots K G H σ ρ Fs) {i : Nat} {v : V} {k : Kd} {x : D} {F : List Addr} (o : Own K G H k v x F) (hi : i < ρ.length) : Slots K G H (σ.set i (some v)) (ρ.set i (some (k, x))) (Fs.set i F) := by
  induction h generalizing i with
  | nil => simp at hi
  | non h ih =>
    cases i with
    | zero => exact .som o h
    | succ i => exact .non (ih (by simpa using hi))
  | som h1 h2 ih =>
    cases i with
    | zero => exact .som o h2
    | succ i => exact .som h1 (ih (by simpa using hi))
/-- .. the value at the slot as it is -/
theorem Slots.setS (h : Slots K G H σ ρ Fs) {i : Nat} {v : V} {k : Kd} {x : D} {F : List Addr} (e : σ[i]? = some (some v)) (o : Own K G H k v x F) : Slots K G H σ (ρ.set i (some (k, x))) (Fs.set i F) := by
  induction h generalizing i with
  | nil => simp at e
  | non h ih =>
    cases i with
    | zero => simp at e; subst e; exact .som o h
    | succ i => exact .non (ih (by simpa using e))
  | som h1 h2 ih =>
    cases i with
    | zero => simp at e; subst e; exact .som o h2
    | succ i => exact .som h1 (ih (by simpa using e))
/-- a slot is forgotten -/
theorem Slots.drop (h : Slots K G H σ ρ Fs) (i : Nat) : Slots K G H σ (ρ.set i none) (Fs.set i []) := by
  induction h generalizing i with
  | nil => exact .nil
  | non h ih =>
    cases i with
    | zero => exact .non h
    | succ i => exact .non (ih i)
  | som h1 h2 ih =>
    cases i with
    | zero => exact .non h2
    | succ i => exact .som h1 (ih i)

theorem flat_set {i : Nat} {F : List Addr} : ∀ {Fs : List (List Addr)}, ∀ a ∈ (Fs.set i F).flatten, a ∈ F ∨ a ∈ (Fs.set i []).flatten
  | [], a, ha => by simp at ha
  | E :: Fs, a, ha => by
    cases i with
    | zero =>
      simp only [List.set_cons_zero, List.flatten_cons, List.mem_append] at ha ⊢
      rcases ha with ha | ha
      · exact .inl ha
      · exact .inr (.inr ha)
    | succ i =>
      simp only [List.set_cons_succ, List.flatten_cons, List.mem_append] at ha ⊢
      rcases ha with ha | ha
      · exact .inr (.inl ha)
      · exact (flat_set (Fs := Fs) a ha).imp id .inr
theorem flat_set' {i : Nat} {F : List Addr} : ∀ {Fs : List (List Addr)}, ∀ a ∈ (Fs.set i []).flatten, a ∈ (Fs.set i F).flatten
  | [], a, ha => by simp at ha
  | E :: Fs, a, ha => by
    cases i with
    | zero =>
      simp only [List.set_cons_zero, List.flatten_cons, List.mem_append] at ha ⊢
      exact .inr (ha.resolve_left (by simp))
    | succ i =>
      simp only [List.set_cons_succ, List.flatten_cons, List.mem_append] at ha ⊢
      exact ha.imp id (flat_set' (Fs := Fs) a)
theorem flat_mem {i : Nat} {F : List Addr} : ∀ {Fs : List (List Addr)}, Fs[i]? = some F → ∀ a ∈ F, a ∈ Fs.flatten
  | [], e, a, ha => by simp at e
  | E :: Fs, e, a, ha => by
    rw [List.flatten_cons]
    cases i with
    | zero => simp at e; subst e; exact List.mem_append_left _ ha
    | succ i => exact List.mem_append_right _ (flat_mem (i := i) (by simpa using e) a ha)
theorem flat_setIn {i : Nat} {F : List Addr} {Fs : List (List Addr)} (hi : i < Fs.length) : ∀ a ∈ F, a ∈ (Fs.set i F).flatten := flat_mem (i := i) (by simp [hi])
theorem flat_less {i : Nat} {Fs : List (List Addr)} : ∀ a ∈ (Fs.set i []).flatten, a ∈ Fs.flatten := fun a ha => by
  rcases Nat.lt_or_ge i Fs.length with h | h
  · have := flat_set' (i := i) (F := Fs[i]) (Fs := Fs) a ha
    rwa [List.set_getElem_self] at this
  · rwa [List.set_eq_of_length_le h] at ha
/-- one slot's things apart from the others' -/
theorem nd_split {i : Nat} {F : List Addr} : ∀ {Fs : List (List Addr)}, Fs[i]? = some F → Fs.flatten.Nodup → F.Nodup ∧ (Fs.set i []).flatten.Nodup ∧ ∀ a ∈ F, a ∉ (Fs.set i []).flatten
  | [], e, _ => by simp at e
  | E :: Fs, e, n => by
    rw [List.flatten_cons, List.nodup_append] at n
    cases i with
    | zero =>
      simp at e; subst e
      simp only [List.set_cons_zero, List.flatten_cons, List.nil_append]
      exact ⟨n.1, n.2.1, fun a ha hb => n.2.2 a ha a hb rfl⟩
    | succ i =>
      obtain ⟨a1, a2, a3⟩ := nd_split (i := i) (Fs := Fs) (by simpa using e) n.2.1
      simp only [List.set_cons_succ, List.flatten_cons]
      refine ⟨a1, ?_, fun a ha hb => ?_⟩
      · rw [List.nodup_append]
        exact ⟨n.1, a2, fun x hx y hy => n.2.2 x hx y (flat_less y hy)⟩
      · rcases List.mem_append.mp hb with hb | hb
        · exact n.2.2 a hb a (flat_mem (i := i) (by simpa using e) a ha) rfl
        · exact a3 a ha hb
theorem nd_join {i : Nat} {F : List Addr} : ∀ {Fs : List (List Addr)}, (Fs.set i []).flatten.Nodup → F.Nodup → (∀ a ∈ F, a ∉ (Fs.set i []).flatten) → (Fs.set i F).flatten.Nodup
  | [], n, _, _ => by simp
  | E :: Fs, n, nf, d => by
    cases i with
    | zero =>
      simp only [List.set_cons_zero, List.flatten_cons, List.nil_append] at n d ⊢
      rw [List.nodup_append]
      exact ⟨nf, n, fun x hx y hy z => d x hx (z ▸ hy)⟩
    | succ i =>
      simp only [List.set_cons_succ, List.flatten_cons] at n d ⊢
      rw [List.nodup_append] at n ⊢
      refine ⟨n.1, nd_join n.2.1 nf fun a ha hb => d a ha (List.mem_append_right _ hb), fun x hx y hy z => ?_⟩
      subst z
      rcases flat_set x hy with h | h
      · exact d x h (List.mem_append_left _ hx)
      · exact n.2.2 x hx x h rfl

/-! ### states -/
theorem StOk.lenσ (h : StOk K R σ ρ Fs H) : σ.length = ρ.length := h.slots.len.1
theorem StOk.lenF (h : StOk K R σ ρ Fs H) : Fs.length = ρ.length := h.slots.len.2
theorem StOk.dom (h : StOk K R σ ρ Fs H) : ∀ a, GG R Fs.flatten a → ∃ o, H a = some o := fun a z => z.elim (h.rdom a) fun z => (h.slots.foot a z).imp fun _ x => x.1
/-- the heap changes beside the slots -/
theorem StOk.beside (h : StOk K R σ ρ Fs H) (p : Pres K (GG R Fs.flatten) H (GG R' Fs.flatten) H') (f : ∀ a ∈ Fs.flatten, H' a = H a) (d : ∀ a ∈ Fs.flatten, ¬ R' a) (r : ∀ a, R' a → ∃ o, H' a = some o) (l : HLen H') : StOk K R' σ ρ Fs H' :=
  ⟨h.slots.pres p f, h.nd, d, r, l⟩
/-- the rest of the world owns less -/
theorem StOk.lessR (h : StOk K R σ ρ Fs H) (hR : ∀ a, R' a → R a) : StOk K R' σ ρ Fs H :=
  ⟨h.slots.pres (Pres.less fun a z => z.imp (hR a) id) fun _ _ => rfl, h.nd, fun a ha z => h.dis a ha (hR a z), fun a z => h.rdom a (hR a z), h.len⟩
/-- slot i's things are given to the rest of the world -/
theorem StOk.take (h : StOk K R σ ρ Fs H) {i : Nat} {k : Kd} {x : D} (e : ρ[i]? = some (some (k, x))) :
    ∃ v F, σ[i]? = some (some v) ∧ Fs[i]? = some F ∧ Own K (GG (GG R F) (Fs.set i []).flatten) H k v x F ∧ F.Nodup ∧ (∀ a ∈ F, ¬ R a) ∧ (∀ a ∈ F, a ∉ (Fs.set i []).flatten) ∧ StOk K (GG R F) σ (ρ.set i none) (Fs.set i []) H := by
  obtain ⟨v, F, e1, e2, o⟩ := h.slots.get e
  obtain ⟨n1, n2, n3⟩ := nd_split e2 h.nd
  have le : ∀ a, GG (GG R F) (Fs.set i []).flatten a → GG R Fs.flatten a := fun a z => by
    rcases z with (z | z) | z
    · exact .inl z
    · exact .inr (flat_mem e2 a z)
    · exact .inr (flat_less a z)
  refine ⟨v, F, e1, e2, Own.pres (Pres.less le) _ _ _ _ (fun _ _ => rfl) o, n1, fun a ha => h.dis a (flat_mem e2 a ha), n3, (h.slots.drop i).pres (Pres.less le) fun _ _ => rfl, n2, fun a ha z => ?_, fun a z => ?_, h.len⟩
  · rcases z with z | z
    · exact h.dis a (flat_less a ha) z
    · exact n3 a z ha
  · rcases z with z | z
    · exact h.rdom a z
    · obtain ⟨o', z, _⟩ := h.slots.foot a (flat_mem e2 a z)
      exact ⟨o', z⟩
/-- .. and come back, as they are now -/
theorem StOk.put {i : Nat} {v : V} {k : Kd} {x : D} {F : List Addr} (h : StOk K (GG R F) σ (ρ.set i none) (Fs.set i []) H) (hi : i < ρ.length) (e : σ[i]? = some (some v))
    (o : Own K (GG (GG R F) (Fs.set i []).flatten) H k v x F) (n : F.Nodup) (d : ∀ a ∈ F, ¬ R a) : StOk K R σ (ρ.set i (some (k, x))) (Fs.set i F) H := by
  have hl : i < Fs.length := by have := h.lenF; simp only [List.length_set] at this; omega
  have le : ∀ a, GG R (Fs.set i F).flatten a → GG (GG R F) (Fs.set i []).flatten a := fun a z => by
    rcases z with z | z
    · exact .inl (.inl z)
    · exact (flat_set a z).elim (fun z => .inl (.inr z)) .inr
  have dj : ∀ a ∈ F, a ∉ (Fs.set i []).flatten := fun a ha z => h.dis a z (.inr ha)
  have s := (h.slots.setS e o).pres (Pres.less le) (fun _ _ => rfl)
  rw [List.set_set, List.set_set] at s
  refine ⟨s, nd_join h.nd n dj, fun a ha z => ?_, fun a z => h.rdom a (.inl z), h.len⟩
  rcases flat_set a ha with y | y
  · exact d a y z
  · exact h.dis a y (.inl z)
/-- an own thing is stored to slot i -/
theorem StOk.store {i : Nat} {v : V} {k : Kd} {x : D} {F : List Addr} (h : StOk K (GG R F) σ ρ Fs H) (hi : i < ρ.length)
    (o : Own K (GG (GG R F) Fs.flatten) H k v x F) (n : F.Nodup) (d : ∀ a ∈ F, ¬ R a) : StOk K R (σ.set i (some v)) (ρ.set i (some (k, x))) (Fs.set i F) H := by
  have hl : i < Fs.length := by have := h.lenF; omega
  have le : ∀ a, GG R (Fs.set i F).flatten a → GG (GG R F) Fs.flatten a := fun a z => by
    rcases z with z | z
    · exact .inl (.inl z)
    · exact (flat_set a z).elim (fun z => .inl (.inr z)) fun z => .inr (flat_less a z)
  have dj : ∀ a ∈ F, a ∉ (Fs.set i []).flatten := fun a ha z => h.dis a (flat_less a z) (.inr ha)
  have n2 : (Fs.set i []).flatten.Nodup := by
    obtain ⟨E, hE⟩ : ∃ E, Fs[i]? = some E := ⟨Fs[i], by simp [hl]⟩
    exact (nd_split hE h.nd).2.1
  refine ⟨(h.slots.set o hi).pres (Pres.less le) (fun _ _ => rfl), nd_join n2 n dj, fun a ha z => ?_, fun a z => h.rdom a (.inl z), h.len⟩
  rcases flat_set a ha with y | y
  · exact d a y z
  · exact h.dis a (flat_less a y) (.inl z)
end
end PL
end

section
set_option Elab.async false
set_option linter.all false
set_option maxRecDepth 100000
set_option autoImplicit false
/-! SC: what it is for an expression of the text to do what the interpreter tells; arguments; operations. -/
namespace PL
open PySem PySem.Spec PyProof.Rows
open L2 (V Hp HO upd upd_same upd_ne SqL SqT Rd Same Cx)

/-- where a piece of a def stands, as far as it matters -/
structure Stat where
  prog : Program
  w : World
  K : PySem.W.Frag
  mg : Str → Option Value
  base : Heap
  A : Around
  N : List Str
  nm : List (Str × NameKind)
  T : Tbl
  cs : Str → Bool
structure In (S : Stat) (X : Cx) : Prop where
  prog : X.prog = S.prog
  w : X.w = S.w
  K : X.K = S.K
  mg : X.mg = S.mg
  base : X.base = S.base
  A : X.A = S.A
  N : X.N = S.N
  nm : X.env.scope.names = S.nm
  kind : X.env.scope.kind = .function
  calm : X.calm = true
  fn : ∀ x, S.cs x = true → X.fn x = true
  xe : X.xe = fun _ _ => False
/-- whose test goes by its value -/
def tst : Expr → Bool
  | .UnaryOp .Not _ _ => false
  | .BoolOp _ _ _ => false
  | .IfExp _ _ _ _ => false
  | _ => true
def isCmp : Expr → Bool
  | .Compare _ _ _ _ => true
  | _ => false
theorem isTrue_shape {e : Expr} (h : tst e = true) (h2 : isCmp e = false) (env : L2.Cx → PySem.Env) (X : Cx) : ∀ whole, isTrue e (env X) whole = (do let v ← whole; standAt e.pos; holding [v] (truthy v)) := by
  intro whole
  cases e
  case UnaryOp op a p => cases op <;> first | rfl | cases h
  case BoolOp => cases h
  case IfExp => cases h
  case Compare => cases h2
  all_goals rfl
def PEc (S : Stat) (e : Expr) (t : L2.TE) : Prop := ∀ X, In S X → L2.PE X e t ∧ (tst e = true → L2.PT X e (L2.tTest t))
theorem PEc.plain {S : Stat} {e : Expr} {t : L2.TE} (h : ∀ X, In S X → L2.PE X e t) (h2 : isCmp e = false) : PEc S e t :=
  fun X hX => ⟨h X hX, fun ht => L2.pt_val (h X hX) (isTrue_shape ht h2 (·.env) X)⟩
theorem PEc.not {S : Stat} {e : Expr} {t : L2.TE} (h : ∀ X, In S X → L2.PE X e t) (h2 : tst e = false) : PEc S e t :=
  fun X hX => ⟨h X hX, fun ht => by rw [h2] at ht; cases ht⟩
/-- an expression: the value may be its owner's alone -/
def SE (S : Stat) (e : Expr) (p : PE) : Prop := ∃ t : L2.TE, PEc S e t ∧
  ∀ (R : Addr → Prop) (σ : L2.St) (H : Hp) (ρ : Env) (Fs : List (List Addr)) (k : Kd) (x : D) (ρ' : Env) (Q : L2.VK), StOk S.K R σ ρ Fs H → evalE S.T p ρ = .ok ((k, x), ρ') →
    (∀ v H' Fs' Fr, noS k = true → StOk S.K (GG R Fr) σ ρ' Fs' H' → Own S.K (GG (GG R Fr) Fs'.flatten) H' k v x Fr → Fr.Nodup → (∀ a ∈ Fr, ¬ R a) → Step S.K Fs.flatten H (Fs'.flatten ++ Fr) H' → Q v H') → t σ H Q
/-- .. as data -/
def SD (S : Stat) (e : Expr) (p : PE) : Prop := ∃ t : L2.TE, PEc S e t ∧
  ∀ (R : Addr → Prop) (σ : L2.St) (H : Hp) (ρ : Env) (Fs : List (List Addr)) (k : Kd) (x : D) (ρ' : Env) (Q : L2.VK), StOk S.K R σ ρ Fs H → evalE S.T p ρ = .ok ((k, x), ρ') →
    (∀ v H' Fs', StOk S.K R σ ρ' Fs' H' → Dat S.K (GG R Fs'.flatten) H' v x → Step S.K Fs.flatten H Fs'.flatten H' → Q v H') → t σ H Q
theorem SE.d {S : Stat} {e : Expr} {p : PE} (h : SE S e p) : SD S e p := by
  obtain ⟨t, pe, f⟩ := h
  refine ⟨t, pe, fun R σ H ρ Fs k x ρ' Q st ev q => f R σ H ρ Fs k x ρ' Q st ev fun v H' Fs' Fr ns st' o n d step => ?_⟩
  refine q v H' Fs' (st'.lessR fun a z => .inl z) (Own.freeze (fun a z => ?_) x k v Fr ns (fun a ha z => ?_) o) (step.sub fun a z => List.mem_append_left _ z)
  · exact z.imp .inl id
  · rcases z with z | z
    · exact d a ha z
    · exact st'.dis a z (.inr ha)
/-- a test -/
def STt (S : Stat) (e : Expr) (p : PE) : Prop := ∃ t : L2.TT, (∀ X, In S X → L2.PT X e t) ∧
  ∀ (R : Addr → Prop) (σ : L2.St) (H : Hp) (ρ : Env) (Fs : List (List Addr)) (b : Bool) (ρ' : Env) (Q : Bool → Hp → Prop), StOk S.K R σ ρ Fs H → evalE S.T p ρ = .ok ((.d, .bool b), ρ') →
    (∀ H' Fs', StOk S.K R σ ρ' Fs' H' → Step S.K Fs.flatten H Fs'.flatten H' → Q b H') → t σ H Q

/-! ### arguments -/
def evalA (T : Tbl) (p : PE) (ρ : Env) : R (Sum Nat D × Env) := match p with
  | .var j => do
    let _ ← get ρ j
    .ok (.inl j, ρ)
  | e => do
    let (v, ρ1) ← evalE T e ρ
    .ok (.inr v.2, ρ1)
theorem bnd_assoc {α β γ : Type} (x : R α) (f : α → R β) (g : β → R γ) : (x.bnd f).bnd g = x.bnd fun a => (f a).bnd g := by cases x <;> rfl
theorem evalAs_cons {T : Tbl} {e : PE} {es : List PE} {ρ : Env} : evalAs T (e :: es) ρ = (evalA T e ρ).bnd fun (r, ρ1) => (evalAs T es ρ1).bnd fun (rs, ρ2) => .ok (r :: rs, ρ2) := by
  cases e
  case var j =>
    show (get ρ j).bnd _ = ((get ρ j).bnd _).bnd _
    cases get ρ j <;> rfl
  all_goals first
    | rfl
    | (simp only [evalAs, evalA]
       generalize evalE T _ ρ = w
       cases w <;> rfl)
def ArgR (K : PySem.W.Frag) (G : Addr → Prop) (H : Hp) (σ : L2.St) (v : V) : Sum Nat D → Prop
  | .inl j => σ[j]? = some (some v)
  | .inr x => Dat K G H v x
def ArgsR (K : PySem.W.Frag) (G : Addr → Prop) (H : Hp) (σ : L2.St) : List V → List (Sum Nat D) → Prop
  | [], [] => True
  | v :: vs, r :: rs => ArgR K G H σ v r ∧ ArgsR K G H σ vs rs
  | _, _ => False
def SG (S : Stat) (e : Expr) (p : PE) : Prop := ∃ t : L2.TE, PEc S e t ∧
  ∀ (R : Addr → Prop) (σ : L2.St) (H : Hp) (ρ : Env) (Fs : List (List Addr)) (r : Sum Nat D) (ρ' : Env) (Q : L2.VK), StOk S.K R σ ρ Fs H → evalA S.T p ρ = .ok (r, ρ') →
    (∀ v H' Fs', StOk S.K R σ ρ' Fs' H' → ArgR S.K (GG R Fs'.flatten) H' σ v r → Step S.K Fs.flatten H Fs'.flatten H' → Q v H') → t σ H Q
def seqT : List L2.TE → L2.St → Hp → (List V → Hp → Prop) → Prop
  | [], _, H, Q => Q [] H
  | t :: ts, σ, H, Q => t σ H fun v H1 => seqT ts σ H1 fun vs H2 => Q (v :: vs) H2
inductive PEs (S : Stat) : List Expr → List L2.TE → Prop
  | nil : PEs S [] []
  | cons {e : Expr} {es : List Expr} {t : L2.TE} {ts : List L2.TE} : PEc S e t → PEs S es ts → PEs S (e :: es) (t :: ts)
def SGs (S : Stat) (es : List Expr) (ps : List PE) : Prop := ∃ ts : List L2.TE, PEs S es ts ∧
  ∀ (R : Addr → Prop) (σ : L2.St) (H : Hp) (ρ : Env) (Fs : List (List Addr)) (rs : List (Sum Nat D)) (ρ' : Env) (Q : List V → Hp → Prop), StOk S.K R σ ρ Fs H → evalAs S.T ps ρ = .ok (rs, ρ') →
    (∀ vs H' Fs', StOk S.K R σ ρ' Fs' H' → ArgsR S.K (GG R Fs'.flatten) H' σ vs rs → Step S.K Fs.flatten H Fs'.flatten H' → Q vs H') → seqT ts σ H Q
section
variable {S : Stat}
theorem ok_bnd {α β : Type} {x : R α} {f : α → R β} {b : β} (h : x.bnd f = .ok b) : ∃ a, x = .ok a ∧ f a = .ok b := by
  cases x with
  | ok a => exact ⟨a, rfl, h⟩
  | ex e => cases h
  | no => cases h
theorem get_some {ρ : Env} {i : Nat} {v : SV} (h : get ρ i = .ok v) : ρ[i]? = some (some v) := by
  unfold get at h
  split at h
  · rename_i w e; cases h; exact e
  · cases h
theorem SG.of {e : Expr} {p : PE} (h : SD S e p) (hn : ∀ j, p ≠ .var j) : SG S e p := by
  obtain ⟨t, pe, f⟩ := h
  refine ⟨t, pe, fun R σ H ρ Fs r ρ' Q st ev q => ?_⟩
  have ev' : (evalE S.T p ρ).bnd (fun (v, ρ1) => PL.R.ok (Sum.inr v.2, ρ1)) = .ok (r, ρ') := by
    cases p
    case var j => exact absurd rfl (hn j)
    all_goals exact ev
  obtain ⟨⟨⟨k, x⟩, ρ1⟩, e1, e2⟩ := ok_bnd ev'
  cases e2
  exact f R σ H ρ Fs k x ρ' Q st e1 fun v H' Fs' st' d step => q v H' Fs' st' d step
theorem SG.var {x : Str} {pos : Pos} {i : Nat} (pe : PEc S (.Name x pos) (L2.tVar i)) : SG S (.Name x pos) (.var i) := by
  refine ⟨_, pe, fun R σ H ρ Fs r ρ' Q st ev q => ?_⟩
  obtain ⟨⟨k, y⟩, e1, e2⟩ := ok_bnd (show (get ρ i).bnd _ = _ from ev)
  cases e2
  obtain ⟨v, F, a, b, c⟩ := st.slots.get (get_some e1)
  exact ⟨v, a, q v H Fs st a Step.refl⟩
theorem ArgR.step {K : PySem.W.Frag} {R : Addr → Prop} {F F' : List Addr} {H H' : Hp} {σ : L2.St} {v : V} {r : Sum Nat D} (s : Step K F H F' H') (h : ArgR K (GG R F) H σ v r) : ArgR K (GG R F') H' σ v r := by
  cases r with
  | inl j => exact h
  | inr x => exact Dat.pres (s.pres fun a z => .inl z) x v h
theorem SGs.nil : SGs S [] [] := ⟨[], .nil, fun R σ H ρ Fs rs ρ' Q st ev q => by
  cases ev
  exact q [] H Fs st trivial Step.refl⟩
theorem SGs.cons {e : Expr} {es : List Expr} {p : PE} {ps : List PE} (h : SG S e p) (hs : SGs S es ps) : SGs S (e :: es) (p :: ps) := by
  obtain ⟨t, pe, f⟩ := h
  obtain ⟨ts, pes, g⟩ := hs
  refine ⟨t :: ts, .cons pe pes, fun R σ H ρ Fs rs ρ' Q st ev q => ?_⟩
  rw [evalAs_cons] at ev
  obtain ⟨⟨r, ρ1⟩, e1, ev⟩ := ok_bnd ev
  obtain ⟨⟨rs', ρ2⟩, e2, ev⟩ := ok_bnd ev
  cases ev
  refine f R σ H ρ Fs r ρ1 _ st e1 fun v H1 Fs1 st1 a1 s1 => ?_
  refine g R σ H1 ρ1 Fs1 rs' ρ' _ st1 e2 fun vs H2 Fs2 st2 a2 s2 => ?_
  exact q (v :: vs) H2 Fs2 st2 ⟨a1.step s2, a2⟩ (s1.trans s2)

/-- values, each with the kind it has now -/
def Args (K : PySem.W.Frag) (G : Addr → Prop) (H : Hp) : List V → List SV → Prop
  | [], [] => True
  | v :: vs, s :: ss => (∃ F, Own K G H s.1 v s.2 F) ∧ Args K G H vs ss
  | _, _ => False
theorem fill_ok {K : PySem.W.Frag} {R : Addr → Prop} {H : Hp} {σ : L2.St} {ρ : Env} {Fs : List (List Addr)} (st : StOk K R σ ρ Fs H) : ∀ {rs : List (Sum Nat D)} {vs : List V} {ss : List SV}, ArgsR K (GG R Fs.flatten) H σ vs rs → fill ρ rs = .ok ss → Args K (GG R Fs.flatten) H vs ss
  | [], [], ss, _, e => by cases e; trivial
  | .inl j :: rs, v :: vs, ss, h, e => by
    obtain ⟨s, e1, e⟩ := ok_bnd (show (get ρ j).bnd _ = _ from e)
    obtain ⟨ss', e2, e⟩ := ok_bnd e
    cases e
    obtain ⟨v', F, a, b, c⟩ := st.slots.get (get_some e1)
    have h1 : σ[j]? = some (some v) := h.1
    rw [a] at h1
    cases h1
    exact ⟨⟨F, c⟩, fill_ok st h.2 e2⟩
  | .inr x :: rs, v :: vs, ss, h, e => by
    obtain ⟨ss', e2, e⟩ := ok_bnd (show (fill ρ rs).bnd _ = _ from e)
    cases e
    exact ⟨⟨[], .d h.1⟩, fill_ok st h.2 e2⟩
  | [], _ :: _, _, h, _ => h.elim
  | _ :: _, [], _, h, _ => h.elim

/-! ### flat values: read by an operation -/
inductive Fl (K : PySem.W.Frag) (G : Addr → Prop) (H : Hp) (sc : Bool) : V → D → Prop
  | dat {v : V} {x : D} : Dat K G H v x → Fl K G H sc v x
  | s {a : Addr} {vs : List V} {ds : List D} : sc = true → SqL K H a vs → DatA K G H vs ds → Fl K G H sc (.ref a) (.list ds)
  | l {a : Addr} {vs : List V} {ds : List D} : H a = some (.lst vs) → DatA K G H vs ds → Fl K G H sc (.ref a) (.list ds)
  | mK {a : Addr} {kvs : List (L2.Key × V)} {kds : List (D × D)} : H a = some (.dK kvs) → DatK K G H kvs kds → Fl K G H sc (.ref a) (.dict kds)
  | mT {a : Addr} {kvs : List (List L2.Key × V)} {kds : List (D × D)} : H a = some (.dT kvs) → DatT K G H kvs kds → Fl K G H sc (.ref a) (.dict kds)
section
variable {K : PySem.W.Frag} {G G' : Addr → Prop} {H H' : Hp} {v : V} {sc : Bool}
theorem Own.fl {k : Kd} {x : D} {F : List Addr} (o : Own K G H k v x F) (h : (flat k || (isS k && sc)) = true) : Fl K G H sc v x := by
  cases o with
  | d h => exact .dat h
  | s e o => exact .s (by simpa [flat, isS] using h) e.seq o
  | @l k a vs ds F e o =>
    cases k with
    | d => exact .l e o.dat.1
    | s => cases h
    | l _ => cases h
    | m _ => cases h
    | t _ => cases h
  | @mK k a vs ds F e o =>
    cases k with
    | d => exact .mK e o.dat.1
    | s => cases h
    | l _ => cases h
    | m _ => cases h
    | t _ => cases h
  | @mT k a vs ds F e o =>
    cases k with
    | d => exact .mT e o.dat.1
    | s => cases h
    | l _ => cases h
    | m _ => cases h
    | t _ => cases h
  | t _ _ => cases h
theorem Fl.int {i : Int} (h : Fl K G H sc v (.int i)) : v = .int i := by cases h with | dat h => cases h; rfl
theorem Fl.bool {b : Bool} (h : Fl K G H sc v (.bool b)) : v = .bl b := by cases h with | dat h => cases h; rfl
theorem Fl.non (h : Fl K G H sc v .none) : v = .non := by cases h with | dat h => cases h; rfl
theorem Fl.str {s : Str} (h : Fl K G H sc v (.str s)) : v = .str s := by cases h with | dat h => cases h; rfl
theorem Fl.tup {ds : List D} (h : Fl K G H sc v (.tuple ds)) : ∃ a vs, v = .ref a ∧ H a = some (.tup vs) ∧ DatA K G H vs ds := by
  cases h with
  | dat h => cases h with | tup a b => exact ⟨_, _, rfl, a, b⟩
theorem Fl.list {ds : List D} (h : Fl K G H false v (.list ds)) : ∃ a vs, v = .ref a ∧ H a = some (.lst vs) ∧ DatA K G H vs ds := by
  cases h with
  | dat h => cases h with | lst _ a b => exact ⟨_, _, rfl, a, b⟩
  | s z => cases z
  | l e b => exact ⟨_, _, rfl, e, b⟩
theorem Fl.listR {ds : List D} (h : Fl K G H sc v (.list ds)) : ∃ a vs, v = .ref a ∧ SqL K H a vs ∧ DatA K G H vs ds := by
  cases h with
  | dat h => cases h with | lst _ a b => exact ⟨_, _, rfl, .inl (.inl a), b⟩
  | s z e b => exact ⟨_, _, rfl, e, b⟩
  | l e b => exact ⟨_, _, rfl, .inl (.inl e), b⟩
theorem Fl.dict {ds : List (D × D)} (h : Fl K G H sc v (.dict ds)) : ∃ a, v = .ref a ∧ ((∃ kvs, H a = some (.dK kvs) ∧ DatK K G H kvs ds) ∨ ∃ kvs, H a = some (.dT kvs) ∧ DatT K G H kvs ds) := by
  cases h with
  | dat h =>
    cases h with
    | dK _ a b => exact ⟨_, rfl, .inl ⟨_, a, b⟩⟩
    | dT _ a b => exact ⟨_, rfl, .inr ⟨_, a, b⟩⟩
  | mK e b => exact ⟨_, rfl, .inl ⟨_, e, b⟩⟩
  | mT e b => exact ⟨_, rfl, .inr ⟨_, e, b⟩⟩

/-! ### results -/
/-- what an operation made: nothing that stood has changed -/
def Res (K : PySem.W.Frag) (G : Addr → Prop) (H : Hp) (k : Kd) (z : D) (u : V) (H' : Hp) : Prop :=
  Same H H' ∧ HLen H' ∧ noS k = true ∧ ∃ Fr : List Addr, Fr.Nodup ∧ (∀ a ∈ Fr, H a = none) ∧ Own K (GG G Fr) H' k u z Fr
theorem GG_nil {a : Addr} : GG G [] a → G a := fun z => z.elim id fun z => nomatch z
theorem Res.dat {z : D} {u : V} (l : HLen H) (h : Dat K G H u z) : Res K G H .d z u H :=
  ⟨Same.refl H, l, rfl, [], List.nodup_nil, fun _ z => (List.not_mem_nil z).elim, .d (Dat.pres (Pres.less fun _ z => GG_nil z) _ _ h)⟩
theorem HLen.put {p : Addr} {o : HO} (l : HLen H) (h : ∀ vs, (o = .lst vs ∨ o = .tup vs) → vs.length ≤ sizeLine) : HLen (upd H p o) := by
  intro a vs z
  by_cases e : a = p
  · subst e
    refine h vs ?_
    rcases z with z | z <;> rw [upd_same] at z <;> cases z
    · exact .inl rfl
    · exact .inr rfl
  · refine l a vs ?_
    rcases z with z | z <;> rw [upd_ne e] at z
    · exact .inl z
    · exact .inr z
theorem same_upd {p : Addr} {o : HO} (n : H p = none) : Same H (upd H p o) := fun a u e => by
  rw [upd_ne (L2.ne_of_none e n)]; exact e
theorem pres_new {p : Addr} {o : HO} (n : H p = none) : Pres K G H (GG G [p]) (upd H p o) :=
  ⟨fun a u e g => ⟨same_upd n a u e, fun z => z.elim g fun z => by
    rw [List.mem_singleton.mp z, n] at e; cases e⟩, fun a xs h => same_upd n _ _ h⟩
theorem pres_same {o : Hp} (s : Same H o) : Pres K G H G o := ⟨fun a u e g => ⟨s a u e, g⟩, fun a xs h => s _ _ h⟩
theorem HLen.tup {p : Addr} {vs : List V} (l : HLen H) (h : vs.length ≤ sizeLine) : HLen (upd H p (.tup vs)) := l.put fun ws z => by
  rcases z with z | z <;> cases z; exact h
theorem HLen.lst {p : Addr} {vs : List V} (l : HLen H) (h : vs.length ≤ sizeLine) : HLen (upd H p (.lst vs)) := l.put fun ws z => by
  rcases z with z | z <;> cases z; exact h
theorem HLen.dK {p : Addr} {vs : List (L2.Key × V)} (l : HLen H) : HLen (upd H p (.dK vs)) := l.put fun ws z => by
  rcases z with z | z <;> cases z
theorem HLen.dT {p : Addr} {vs : List (List L2.Key × V)} (l : HLen H) : HLen (upd H p (.dT vs)) := l.put fun ws z => by
  rcases z with z | z <;> cases z
theorem Res.tup {p : Addr} {vs : List V} {ds : List D} (l : HLen H) (n : H p = none) (h : DatA K G H vs ds) (s : vs.length ≤ sizeLine) : Res K G H .d (.tuple ds) (.ref p) (upd H p (.tup vs)) :=
  ⟨same_upd n, l.tup s, rfl, [], List.nodup_nil, fun _ z => (List.not_mem_nil z).elim, .d (.tup upd_same (DatA.pres ⟨fun a u e g => ⟨same_upd n a u e, fun z => g (GG_nil z)⟩, fun a xs h => same_upd n _ _ h⟩ _ _ h))⟩
theorem Res.lst {p : Addr} {vs : List V} {ds : List D} (l : HLen H) (n : H p = none) (h : DatA K G H vs ds) (s : vs.length ≤ sizeLine) : Res K G H (.l .d) (.list ds) (.ref p) (upd H p (.lst vs)) :=
  ⟨same_upd n, l.lst s, rfl, [p], by simp, fun a z => by rw [List.mem_singleton.mp z]; exact n, .l upd_same (OwnA.of (DatA.pres (pres_new n) _ _ h))⟩
end

/-- an operation, behind its operands -/
theorem SE.fin {R : Addr → Prop} {σ : L2.St} {H H' : Hp} {ρ : Env} {Fs : List (List Addr)} {k : Kd} {z : D} {u : V} {Q : L2.VK} (st : StOk S.K R σ ρ Fs H) (r : Res S.K (GG R Fs.flatten) H k z u H') {F0 : List Addr} {H0 : Hp} (s0 : Step S.K F0 H0 Fs.flatten H)
    (q : ∀ v H' Fs' Fr, noS k = true → StOk S.K (GG R Fr) σ ρ Fs' H' → Own S.K (GG (GG R Fr) Fs'.flatten) H' k v z Fr → Fr.Nodup → (∀ a ∈ Fr, ¬ R a) → Step S.K F0 H0 (Fs'.flatten ++ Fr) H' → Q v H') : Q u H' := by
  obtain ⟨s, l, ns, Fr, n, f, o⟩ := r
  have hR : ∀ a ∈ Fr, ¬ R a := fun a ha z => by
    obtain ⟨o, e⟩ := st.rdom a z
    rw [f a ha] at e; cases e
  have hF : ∀ a ∈ Fs.flatten, a ∉ Fr := fun a ha z => by
    obtain ⟨o, e, _⟩ := st.slots.foot a ha
    rw [f a z] at e; cases e
  refine q u H' Fs Fr ns (st.beside ?_ (fun a ha => ?_) (fun a ha z => ?_) (fun a z => ?_) l) (Own.pres (Pres.less fun a z => ?_) _ _ _ _ (fun _ _ => rfl) o) n hR ⟨fun a o e hn => s _ _ (s0.keep a o e hn), fun a xs h => s _ _ (s0.tups a xs h), fun a z => ?_⟩
  · exact (Step.same s (F := Fs.flatten) fun a z => .inl z).pres fun a z => z.imp id (f a)
  · obtain ⟨o, e, _⟩ := st.slots.foot a ha
    rw [s a o e, e]
  · rcases z with z | z
    · exact st.dis a ha z
    · exact hF a ha z
  · rcases z with z | z
    · obtain ⟨o, e⟩ := st.rdom a z
      exact ⟨o, s a o e⟩
    · obtain ⟨o, e, _⟩ := Own.foot _ _ _ _ o a z
      exact ⟨o, e⟩
  · rcases z with (z | z) | z
    · exact .inl (.inl z)
    · exact .inr z
    · exact .inl (.inr z)
  · rcases List.mem_append.mp z with z | z
    · exact s0.new a z
    · cases e : H0 a with
      | none => exact .inr rfl
      | some o =>
        by_cases hc : a ∈ F0
        · exact .inl hc
        · have := s0.keep a o e hc
          rw [f a z] at this; cases this

theorem bind_ok {α β : Type} {x : R α} {f : α → R β} {b : β} (h : (x >>= f) = .ok b) : ∃ a, x = .ok a ∧ f a = .ok b := ok_bnd h
/-- one operand -/
def Op1 (K : PySem.W.Frag) (o : Op) (r : V → Hp → L2.VK → Prop) : Prop := ∀ (G : Addr → Prop) (H : Hp) (v : V) (x : D) (k : Kd) (z : D) (Q : L2.VK), Fl K G H (scrOp o) v x → opD o [x] = .ok (k, z) → HLen H →
  (∀ u H', Res K G H k z u H' → Q u H') → r v H Q
def Op2 (K : PySem.W.Frag) (o : Op) (r : L2.R2) : Prop := ∀ (G : Addr → Prop) (H : Hp) (v w : V) (x y : D) (k : Kd) (z : D) (Q : L2.VK), Fl K G H (scrOp o) v x → Fl K G H (scrOp o) w y → opD o [x, y] = .ok (k, z) → HLen H →
  (∀ u H', Res K G H k z u H' → Q u H') → r v w H Q
def OpN (K : PySem.W.Frag) (o : Op) (n : Nat) (r : List V → Hp → L2.VK → Prop) : Prop := ∀ (G : Addr → Prop) (H : Hp) (vs : List V) (xs : List D) (k : Kd) (z : D) (Q : L2.VK), xs.length = n → vs.length = n → (∀ (i : Nat) (x : D), xs[i]? = some x → ∃ v : V, vs[i]? = some v ∧ Fl K G H (scrOp o) v x) → opD o xs = .ok (k, z) → HLen H →
  (∀ u H', Res K G H k z u H' → Q u H') → r vs H Q
theorem opV_ok {o : Op} {ss : List SV} {s : SV} (h : opV o ss = .ok s) : (∀ x ∈ ss, (flat x.1 || (isS x.1 && scrOp o)) = true) ∧ opD o (ss.map (·.2)) = .ok s := by
  unfold opV at h
  split at h
  · rename_i e
    exact ⟨fun x hx => List.all_eq_true.mp e x hx, h⟩
  · cases h
theorem Args.len {K : PySem.W.Frag} {G : Addr → Prop} {H : Hp} : ∀ {vs : List V} {ss : List SV}, Args K G H vs ss → vs.length = ss.length
  | [], [], _ => rfl
  | _ :: _, _ :: _, h => by simp only [List.length_cons, Args.len h.2]
theorem Args.fl {K : PySem.W.Frag} {G : Addr → Prop} {H : Hp} {sc : Bool} : ∀ {vs : List V} {ss : List SV}, Args K G H vs ss → (∀ x ∈ ss, (flat x.1 || (isS x.1 && sc)) = true) → ∀ (i : Nat) (x : D), (ss.map (·.2))[i]? = some x → ∃ v : V, vs[i]? = some v ∧ Fl K G H sc v x
  | [], [], _, _, i, x, e => by simp at e
  | v :: vs, s :: ss, h, f, i, x, e => by
    cases i with
    | zero =>
      simp at e; subst e
      obtain ⟨F, o⟩ := h.1
      exact ⟨v, rfl, o.fl (f s List.mem_cons_self)⟩
    | succ i =>
      obtain ⟨w, a, b⟩ := Args.fl h.2 (fun x hx => f x (List.mem_cons_of_mem _ hx)) i x (by simpa using e)
      exact ⟨w, by simpa using a, b⟩
theorem evalAs_len {T : Tbl} : ∀ {ps : List PE} {ρ ρ' : Env} {rs : List (Sum Nat D)}, evalAs T ps ρ = .ok (rs, ρ') → rs.length = ps.length
  | [], _, _, _, e => by cases e; rfl
  | p :: ps, _, _, _, e => by
    rw [evalAs_cons] at e
    obtain ⟨⟨r, ρ1⟩, e1, e⟩ := ok_bnd e
    obtain ⟨⟨rs', ρ2⟩, e2, e⟩ := ok_bnd e
    cases e
    simp only [List.length_cons, evalAs_len e2]
theorem ArgsR.len {K : PySem.W.Frag} {G : Addr → Prop} {H : Hp} {σ : L2.St} : ∀ {vs : List V} {rs : List (Sum Nat D)}, ArgsR K G H σ vs rs → vs.length = rs.length
  | [], [], _ => rfl
  | _ :: _, _ :: _, h => by simp only [List.length_cons, ArgsR.len h.2]
  | [], _ :: _, h => h.elim
  | _ :: _, [], h => h.elim
/-- any number of operands, one after another -/
theorem SE.opN {e : Expr} {es : List Expr} {ps : List PE} {o : Op} {r : List V → Hp → L2.VK → Prop} (A : SGs S es ps) (sem : OpN S.K o ps.length r)
    (rule : ∀ ts, PEs S es ts → ∃ t, PEc S e t ∧ ∀ σ H Q, seqT ts σ H (fun vs H1 => r vs H1 Q) → t σ H Q) : SE S e (.op o ps) := by
  obtain ⟨ts, pes, f⟩ := A
  obtain ⟨t, pe, g⟩ := rule ts pes
  refine ⟨t, pe, fun R σ H ρ Fs k x ρ' Q st ev q => g σ H Q ?_⟩
  obtain ⟨⟨rs, ρ1⟩, e1, ev⟩ := ok_bnd (show (evalAs S.T ps ρ).bnd _ = _ from ev)
  obtain ⟨ss, e2, ev⟩ := ok_bnd ev
  obtain ⟨s, e3, ev⟩ := ok_bnd ev
  cases ev
  refine f R σ H ρ Fs rs ρ' _ st e1 fun vs H1 Fs1 st1 a1 s1 => ?_
  have ag := fill_ok st1 a1 e2
  obtain ⟨hf, hd⟩ := opV_ok e3
  have hv : vs.length = ps.length := a1.len.trans (evalAs_len e1)
  refine sem (GG R Fs1.flatten) H1 vs (ss.map (·.2)) k x Q ?_ hv (ag.fl hf) hd st1.len fun u H' res => SE.fin st1 res s1 q
  rw [List.length_map, ← ag.len, hv]
def r2of (r : L2.R2) : List V → Hp → L2.VK → Prop := fun vs H Q => match vs with
  | [v, w] => r v w H Q
  | _ => False
def r1of (r : V → Hp → L2.VK → Prop) : List V → Hp → L2.VK → Prop := fun vs H Q => match vs with
  | [v] => r v H Q
  | _ => False
theorem SE.op2 {e a b : Expr} {pa pb : PE} {o : Op} {r : L2.R2} (A : SG S a pa) (B : SG S b pb) (sem : Op2 S.K o r) (rule : ∀ ta tb, PEc S a ta → PEc S b tb → PEc S e (L2.tOp r ta tb)) : SE S e (.op o [pa, pb]) := by
  refine SE.opN (r := r2of r) (SGs.cons A (SGs.cons B SGs.nil)) (fun G H vs xs k z Q hx hv fl hd hl q => ?_) fun ts pes => ?_
  · match xs, vs, hx, hv with
    | [x, y], [v, w], _, _ =>
      obtain ⟨v', e1, f1⟩ := fl 0 x rfl
      obtain ⟨w', e2, f2⟩ := fl 1 y rfl
      cases e1; cases e2
      exact sem G H v w x y k z Q f1 f2 hd hl q
  · cases pes with
    | cons h1 t1 => cases t1 with
      | cons h2 t2 =>
        cases t2
        exact ⟨_, rule _ _ h1 h2, fun σ H Q h => h⟩
theorem SE.op1 {e a : Expr} {pa : PE} {o : Op} {r : V → Hp → L2.VK → Prop} (A : SG S a pa) (sem : Op1 S.K o r) (rule : ∀ ta, PEc S a ta → PEc S e (L2.tUn r ta)) : SE S e (.op o [pa]) := by
  refine SE.opN (r := r1of r) (SGs.cons A SGs.nil) (fun G H vs xs k z Q hx hv fl hd hl q => ?_) fun ts pes => ?_
  · match xs, vs, hx, hv with
    | [x], [v], _, _ =>
      obtain ⟨v', e1, f1⟩ := fl 0 x rfl
      cases e1
      exact sem G H v x k z Q f1 hd hl q
  · cases pes with
    | cons h1 t1 =>
      cases t1
      exact ⟨_, rule _ h1, fun σ H Q h => h⟩
end
end PL
end

section
set_option Elab.async false
set_option linter.all false
set_option maxRecDepth 100000
set_option autoImplicit false
/-! SD: each operation over the hand layer's rules. -/
namespace PL
open PySem PySem.Spec PyProof.Rows
open L2 (V Hp HO upd upd_same upd_ne SqL SqT Rd Same Cx OpR UnR CallR R2 VK Inv EP RelV)

section
variable {X : Cx}
theorem OpR.or {f : Value → Value → Sem Value} {r r' : R2} (h : OpR X f r) (h' : OpR X f r') : OpR X f (fun x y H Q => r x y H Q ∨ r' x y H Q) := by
  intro pins s σ H x y v u Q I rx ry q
  rcases q with q | q
  · exact h pins s σ H x y v u Q I rx ry q
  · exact h' pins s σ H x y v u Q I rx ry q
theorem CallR.or {f : Value} {r r' : List V → Hp → VK → Prop} (h : CallR X f r) (h' : CallR X f r') : CallR X f (fun xs H Q => r xs H Q ∨ r' xs H Q) := by
  intro pins s σ H xs us Q I rx q
  rcases q with q | q
  · exact h pins s σ H xs us Q I rx q
  · exact h' pins s σ H xs us Q I rx q
end

theorem sizeCap_eq : sizeCap = sizeLine := by decide
theorem SqT.unH {K : PySem.W.Frag} {H : Hp} {a : Addr} {vs : List V} (h : SqT K H a vs) : SqT K H a vs := h
section
variable {K : PySem.W.Frag}

/-! ### arithmetic -/
def rAdd (K : PySem.W.Frag) : R2 := fun x y H Q => L2.rI0 (fun i j => .int (i + j)) x y H Q ∨ (L2.rCat x y H Q ∨ L2.rCatA K x y H Q)
theorem sem_add : Op2 K .add (rAdd K) := by
  intro G H v w x y k z Q fx fy hd hl q
  cases x <;> cases y <;> simp only [opD, reduceCtorEq] at hd
  case int.int i j =>
    cases hd
    exact .inl ⟨i, j, fx.int, fy.int, q _ _ (.dat hl (.int _))⟩
  case list.list a b =>
    split at hd
    · rename_i hle
      cases hd
      obtain ⟨p, vs, rfl, r1, d1⟩ := fx.list
      obtain ⟨p2, ws, rfl, r2, d2⟩ := fy.list
      have hs : vs.length + ws.length ≤ sizeLine := by rw [d1.len, d2.len, ← sizeCap_eq]; exact hle
      exact .inr (.inl ⟨_, _, _, _, rfl, rfl, r1, r2, hs, fun p hp => q _ _ (.lst hl hp (d1.app d2) (by rw [List.length_append]; exact hs))⟩)
    · cases hd
  case tuple.tuple a b =>
    split at hd
    · rename_i hle
      cases hd
      obtain ⟨p, vs, rfl, r1, d1⟩ := fx.tup
      obtain ⟨p2, ws, rfl, r2, d2⟩ := fy.tup
      have hs : vs.length + ws.length ≤ sizeLine := by rw [d1.len, d2.len, ← sizeCap_eq]; exact hle
      refine .inr (.inr ⟨_, _, _, _, rfl, rfl, L2.SqT.of r1, L2.SqT.of r2, hs, fun e => ?_, fun _ e => ?_, fun _ _ p hp => ?_⟩)
      · subst e
        cases d1
        exact q _ _ (.dat hl (.tup r2 d2))
      · subst e
        cases d2
        rw [List.append_nil] at q
        exact q _ _ (.dat hl (.tup r1 d1))
      · exact q _ _ (.tup hl hp (d1.app d2) (by rw [List.length_append]; exact hs))
    · cases hd
theorem sem_sub : Op2 K .sub (L2.rI0 fun i j => .int (i - j)) := by
  intro G H v w x y k z Q fx fy hd hl q
  cases x <;> cases y <;> simp only [opD, reduceCtorEq] at hd
  cases hd
  exact ⟨_, _, fx.int, fy.int, q _ _ (.dat hl (.int _))⟩
theorem lim_ok {a : Int} (h : lim a = true) : -(2 ^ 64) < a ∧ a < 2 ^ 64 := by
  unfold lim at h
  rw [Bool.and_eq_true] at h
  exact ⟨of_decide_eq_true h.1, of_decide_eq_true h.2⟩
theorem small_ok {a : Int} (h : small a = true) : -(2 ^ 62) ≤ a ∧ a < 2 ^ 62 := by
  unfold small at h
  rw [Bool.and_eq_true] at h
  exact ⟨of_decide_eq_true h.1, of_decide_eq_true h.2⟩

def rMul : R2 := fun x y H Q => L2.rI L2.CMul (fun i j => .int (i * j)) x y H Q ∨ L2.rRep x y H Q
theorem rep_len (n : Nat) (vs : List V) : (List.replicate n vs).flatten.length = vs.length * n := by
  induction n with
  | zero => rfl
  | succ n ih => rw [List.replicate_succ, List.flatten_cons, List.length_append, ih, Nat.mul_succ, Nat.add_comm]
theorem sem_mul : Op2 K .mul rMul := by
  intro G H v w x y k z Q fx fy hd hl q
  cases x <;> cases y <;> simp only [opD, reduceCtorEq] at hd
  case int.int i j =>
    split at hd
    · rename_i hc
      cases hd
      refine .inl ⟨i, j, fx.int, fy.int, ?_, q _ _ (.dat hl (.int _))⟩
      exact (Bool.or_eq_true_iff.mp hc).imp lim_ok lim_ok
    · cases hd
  case list.int a j =>
    split at hd
    · rename_i hc
      cases hd
      obtain ⟨p, vs, rfl, r1, d1⟩ := fx.list
      rw [Bool.and_eq_true] at hc
      have h1 := small_ok hc.1
      have h2 : vs.length * j.toNat ≤ sizeLine := by rw [d1.len, ← sizeCap_eq]; exact of_decide_eq_true hc.2
      exact .inr ⟨_, _, _, rfl, fy.int, r1, by omega, by omega, h2, fun p hp => q _ _ (.lst hl hp (DatA.cat (vss := []) (dss := []) _ d1) (by rw [rep_len]; exact h2))⟩
    · cases hd
theorem sem_fdiv : Op2 K .fdiv (L2.rI L2.CDivN fun i j => .int (i.fdiv j)) := by
  intro G H v w x y k z Q fx fy hd hl q
  cases x <;> cases y <;> simp only [opD, reduceCtorEq] at hd
  split at hd
  · rename_i hc
    cases hd
    exact ⟨_, _, fx.int, fy.int, hc, q _ _ (.dat hl (.int _))⟩
  · cases hd
theorem sem_mod : Op2 K .mod (L2.rI (fun _ j => j ≠ 0) fun i j => .int (i.fmod j)) := by
  intro G H v w x y k z Q fx fy hd hl q
  cases x <;> cases y <;> simp only [opD, reduceCtorEq] at hd
  split at hd
  · rename_i hc
    cases hd
    exact ⟨_, _, fx.int, fy.int, hc, q _ _ (.dat hl (.int _))⟩
  · cases hd
theorem sem_pow : Op2 K .pow (L2.rI L2.CPow fun i j => .int (i ^ j.toNat)) := by
  intro G H v w x y k z Q fx fy hd hl q
  cases x <;> cases y <;> simp only [opD, reduceCtorEq] at hd
  split at hd
  · rename_i hc
    cases hd
    exact ⟨_, _, fx.int, fy.int, hc, q _ _ (.dat hl (.int _))⟩
  · cases hd
theorem sem_shl : Op2 K .shl (L2.rI L2.CPow fun i j => .int (i * 2 ^ j.toNat)) := by
  intro G H v w x y k z Q fx fy hd hl q
  cases x <;> cases y <;> simp only [opD, reduceCtorEq] at hd
  split at hd
  · rename_i hc
    cases hd
    exact ⟨_, _, fx.int, fy.int, hc, q _ _ (.dat hl (.int _))⟩
  · cases hd
theorem sem_shr : Op2 K .shr (L2.rI (fun _ j => 0 ≤ j) fun i j => .int (i / 2 ^ j.toNat)) := by
  intro G H v w x y k z Q fx fy hd hl q
  cases x <;> cases y <;> simp only [opD, reduceCtorEq] at hd
  split at hd
  · rename_i hc
    cases hd
    exact ⟨_, _, fx.int, fy.int, hc, q _ _ (.dat hl (.int _))⟩
  · cases hd
theorem sem_neg : Op1 K .neg (L2.rU fun i => .int (-i)) := by
  intro G H v x k z Q fx hd hl q
  cases x <;> simp only [opD, reduceCtorEq] at hd
  cases hd
  exact ⟨_, fx.int, q _ _ (.dat hl (.int _))⟩

/-! ### comparisons -/
mutual
theorem Dat.dp {G : Addr → Prop} {H : Hp} : ∀ (d : D) (v : V), PyData.canLay0 d = true → Dat K G H v d → L2.Dp K H v d
  | .none, _, _, h => by cases h; exact .non
  | .bool _, _, _, h => by cases h; exact .bl _
  | .int _, _, _, h => by cases h; exact .int _
  | .str _, _, _, h => by cases h; exact .str _
  | .tuple ds, _, c, h => by
    cases h with
    | tup hs ha => exact .tup (L2.SqT.of hs) (DatA.dp ds _ (by simpa [PyData.canLay0] using c) ha)
  | .list ds, _, c, h => by
    cases h with
    | lst g hs ha => exact .lst (L2.SqL.of hs) (DatA.dp ds _ (by simpa [PyData.canLay0] using c) ha)
  | .dict ds, _, c, h => by simp [PyData.canLay0] at c
theorem DatA.dp {G : Addr → Prop} {H : Hp} : ∀ (ds : List D) (vs : List V), PyData.canLayAll0 ds = true → DatA K G H vs ds → L2.DpAll K H vs ds
  | [], _, _, h => by cases h; exact .nil
  | d :: ds, _, c, h => by
    cases h with
    | cons h1 h2 =>
      have c' : d.canLay0 = true ∧ PyData.canLayAll0 ds = true := by simpa [PyData.canLayAll0] using c
      exact .cons (Dat.dp d _ c'.1 h1) (DatA.dp ds _ c'.2 h2)
end
theorem Fl.dp {G : Addr → Prop} {H : Hp} {v : V} {x : D} (f : Fl K G H false v x) (s : SeqAt.shaped x = true) : L2.Dp K H v x := by
  have c := SeqAt.canLay_of_shaped s
  cases f with
  | dat h => exact Dat.dp x v c h
  | s z => cases z
  | l e h => exact .lst (L2.SqL.of e) (DatA.dp _ _ (by simpa [PyData.canLay0] using c) h)
  | mK e h => simp [PyData.canLay0] at c
  | mT e h => simp [PyData.canLay0] at c
theorem eqD_ok {a b : D} {r : Bool} (h : eqD a b = .ok r) : SeqAt.shaped a = true ∧ SeqAt.shaped b = true ∧ r = PyData.eqv a b := by
  unfold eqD at h
  split at h
  · rename_i c
    cases h
    exact ⟨(Bool.and_eq_true_iff.mp c).1, (Bool.and_eq_true_iff.mp c).2, rfl⟩
  · cases h
theorem sem_eq : Op2 K .eq (L2.rEqD K) := by
  intro G H v w x y k z Q fx fy hd hl q
  obtain ⟨r, e, hd⟩ := bind_ok (show (eqD x y >>= fun r => tellB r) = .ok (k, z) from hd)
  obtain ⟨s1, s2, rfl⟩ := eqD_ok e
  cases hd
  exact ⟨x, y, Fl.dp fx s1, Fl.dp fy s2, s1, s2, q _ _ (.dat hl (.bl _))⟩
theorem sem_ne : Op2 K .ne (L2.rNeD K) := by
  intro G H v w x y k z Q fx fy hd hl q
  obtain ⟨r, e, hd⟩ := bind_ok (show (eqD x y >>= fun r => tellB (!r)) = .ok (k, z) from hd)
  obtain ⟨s1, s2, rfl⟩ := eqD_ok e
  cases hd
  exact ⟨x, y, Fl.dp fx s1, Fl.dp fy s2, s1, s2, q _ _ (.dat hl (.bl _))⟩
theorem lexLt_eq : ∀ (a b : List Int), lexLt a b = HT.lexLt a b
  | [], [] => rfl
  | [], _ :: _ => rfl
  | _ :: _, [] => rfl
  | x :: xs, y :: ys => by
    show (if x = y then lexLt xs ys else decide (x < y)) = if x = y then HT.lexLt xs ys else decide (x < y)
    rw [lexLt_eq xs ys]
def rLt (K : PySem.W.Frag) : R2 := fun x y H Q => L2.rI0 (fun i j => .bl (decide (i < j))) x y H Q ∨ L2.rLtT K x y H Q
theorem sem_lt : Op2 K .lt (rLt K) := by
  intro G H v w x y k z Q fx fy hd hl q
  obtain ⟨r, e, hd⟩ := bind_ok (show (ltD x y >>= fun r => tellB r) = .ok (k, z) from hd)
  cases hd
  cases x <;> cases y <;> simp only [ltD, reduceCtorEq] at e
  case int.int i j =>
    cases e
    exact .inl ⟨_, _, fx.int, fy.int, q _ _ (.dat hl (.bl _))⟩
  case tuple.tuple a b =>
    split at e
    · rename_i p r e1 e2
      cases e
      obtain ⟨_, vs, rfl, r1, d1⟩ := fx.tup
      obtain ⟨_, ws, rfl, r2, d2⟩ := fy.tup
      obtain ⟨rfl, _⟩ := d1.ints e1
      obtain ⟨rfl, _⟩ := d2.ints e2
      rw [lexLt_eq] at q
      exact .inr ⟨_, _, _, _, rfl, rfl, L2.SqT.of r1, L2.SqT.of r2, q _ _ (.dat hl (.bl _))⟩
    · cases e
theorem sem_gt : Op2 K .gt (L2.rI0 fun i j => .bl (decide (j < i))) := by
  intro G H v w x y k z Q fx fy hd hl q
  cases x <;> cases y <;> simp only [opD, reduceCtorEq] at hd
  cases hd
  exact ⟨_, _, fx.int, fy.int, q _ _ (.dat hl (.bl _))⟩
theorem sem_ge : Op2 K .ge (L2.rI0 fun i j => .bl (decide (j ≤ i))) := by
  intro G H v w x y k z Q fx fy hd hl q
  cases x <;> cases y <;> simp only [opD, reduceCtorEq] at hd
  cases hd
  exact ⟨_, _, fx.int, fy.int, q _ _ (.dat hl (.bl _))⟩
/-- the order of rows of numbers, as the layer tells it -/
theorem lexAt_le : ∀ (a b : List Int) (i : Nat), i ≤ min a.length b.length → Ob.lexAt (fun j => decide (a.getD j 0 = b.getD j 0)) (fun j => decide (a.getD j 0 ≤ b.getD j 0)) (decide (a.length ≤ b.length)) i (min a.length b.length - i) = !lexLt (b.drop i) (a.drop i) := by
  intro a b i hi
  generalize hn : min a.length b.length - i = n
  induction n generalizing i with
  | zero =>
    rw [Ob.lexAt_zero]
    by_cases h : a.length ≤ b.length
    · rw [decide_eq_true h]
      have ha : a.drop i = [] := List.drop_eq_nil_of_le (by omega)
      rw [ha]
      cases b.drop i <;> rfl
    · rw [decide_eq_false h]
      have hb : b.drop i = [] := List.drop_eq_nil_of_le (by omega)
      rw [hb]
      cases e : a.drop i with
      | nil => have := List.drop_eq_nil_iff.mp e; omega
      | cons _ _ => rfl
  | succ n ih =>
    have h1 : i < a.length := by omega
    have h2 : i < b.length := by omega
    rw [Ob.lexAt_succ, ih (i + 1) (by omega) (by omega), List.drop_eq_getElem_cons h1, List.drop_eq_getElem_cons h2]
    have g1 : a.getD i 0 = a[i] := by simp [h1]
    have g2 : b.getD i 0 = b[i] := by simp [h2]
    rw [g1, g2]
    show _ = !(if b[i] = a[i] then _ else _)
    by_cases e : a[i] = b[i]
    · rw [if_pos (decide_eq_true e), if_pos e.symm]
    · rw [if_neg (by simpa using e), if_neg (fun z => e z.symm)]
      by_cases l : a[i] ≤ b[i]
      · rw [decide_eq_true l, decide_eq_false (by omega)]; rfl
      · rw [decide_eq_false l, decide_eq_true (by omega)]; rfl
def rLe (K : PySem.W.Frag) : R2 := fun x y H Q => L2.rI0 (fun i j => .bl (decide (i ≤ j))) x y H Q ∨ L2.rLeT K x y H Q
theorem sem_le : Op2 K .le (rLe K) := by
  intro G H v w x y k z Q fx fy hd hl q
  obtain ⟨r, e, hd⟩ := bind_ok (show (leD x y >>= fun r => tellB r) = .ok (k, z) from hd)
  cases hd
  cases x <;> cases y <;> simp only [leD, reduceCtorEq] at e
  case int.int i j =>
    cases e
    exact .inl ⟨_, _, fx.int, fy.int, q _ _ (.dat hl (.bl _))⟩
  case tuple.tuple a b =>
    split at e
    · rename_i p r e1 e2
      cases e
      obtain ⟨_, vs, rfl, r1, d1⟩ := fx.tup
      obtain ⟨_, ws, rfl, r2, d2⟩ := fy.tup
      obtain ⟨rfl, _⟩ := d1.ints e1
      obtain ⟨rfl, _⟩ := d2.ints e2
      refine .inr ⟨_, _, _, _, rfl, rfl, L2.SqT.of r1, L2.SqT.of r2, ?_⟩
      have h := lexAt_le p r 0 (Nat.zero_le _)
      rw [Nat.sub_zero, List.drop_zero, List.drop_zero] at h
      rw [h]
      exact q _ _ (.dat hl (.bl _))
    · cases e
end
section
variable {X : Cx}
/-- x in a list, a tuple, a dict -/
def rInT (K : PySem.W.Frag) (neg : Bool) : R2 := fun x y H Q => ∃ d ds, L2.Dp K H x d ∧ L2.Dp K H y (.tuple ds) ∧ SeqAt.shaped d = true ∧ SeqAt.shaped (.tuple ds) = true ∧ Q (.bl (neg ^^ ds.any fun z => PyData.eqv z d)) H
theorem shaped_tuple {ds : List D} (h : SeqAt.shaped (.tuple ds) = true) : PyData.canLayAll0 ds = true ∧ PyData.depthAll ds ≤ 63 := by
  have c := SeqAt.canLay_of_shaped h
  have d := SeqAt.depth_of_shaped h
  simp only [PyData.depth] at d
  exact ⟨by simpa [PyData.canLay0] using c, by omega⟩
theorem op_inT (hu : X.A.units + 65 < cLine) : OpR X (compareOp .In) (rInT X.K false) := by
  intro pins s σ H x y v u Q I rx ry ⟨d, ds, hd, he, sd, se, q⟩
  obtain ⟨as, r1⟩ := L2.Dp.reads I d x v hd rx
  obtain ⟨bs, r2⟩ := L2.Dp.reads I (.tuple ds) y u he ry
  obtain ⟨c, dd⟩ := shaped_tuple se
  exact SeqAt.in_tuple_reads r2 r1 c (SeqAt.canLay_of_shaped sd) (by have := Nat.min_le_left (PyData.depthAll ds) d.depth; omega) ⟨.bl _, H, I, by rw [Bool.false_xor]; rfl, q⟩
theorem op_notInT (hu : X.A.units + 65 < cLine) : OpR X (compareOp .NotIn) (rInT X.K true) := by
  intro pins s σ H x y v u Q I rx ry ⟨d, ds, hd, he, sd, se, q⟩
  obtain ⟨as, r1⟩ := L2.Dp.reads I d x v hd rx
  obtain ⟨bs, r2⟩ := L2.Dp.reads I (.tuple ds) y u he ry
  obtain ⟨c, dd⟩ := shaped_tuple se
  exact SeqAt.notIn_tuple_reads r2 r1 c (SeqAt.canLay_of_shaped sd) (by have := Nat.min_le_left (PyData.depthAll ds) d.depth; omega) ⟨.bl _, H, I, by rw [Bool.true_xor]; rfl, q⟩
def rInM (neg : Bool) : R2 := fun x y H Q => ∃ a o, y = .ref a ∧ L2.DGet H a x o ∧ Q (.bl (neg ^^ o.isSome)) H
theorem op_inM (hu : X.A.units + 1 < cLine) : OpR X (compareOp .In) (rInM false) := by
  intro pins s σ H x y v u Q I rx ry ⟨a, o, e, g, q⟩
  subst e
  cases (show u = Value.ref a from ry)
  exact L2.d_in hu I g rx fun s3 I3 => ⟨.bl _, H, I3, by rw [Bool.false_xor]; rfl, q⟩
theorem op_notInM (hu : X.A.units + 1 < cLine) : OpR X (compareOp .NotIn) (rInM true) := by
  intro pins s σ H x y v u Q I rx ry ⟨a, o, e, g, q⟩
  subst e
  cases (show u = Value.ref a from ry)
  exact L2.d_notIn hu I g rx fun s3 I3 => ⟨.bl _, H, I3, by rw [Bool.true_xor]; rfl, q⟩
end
end PL
end

section
set_option Elab.async false
set_option linter.all false
set_option maxRecDepth 100000
set_option autoImplicit false
/-! SD2: dicts: looking up, storing; an empty dict is of both sorts. -/
namespace PL
open PySem PySem.Spec PyProof.Rows
open L2 (V Hp HO upd upd_same upd_ne SqL SqT Rd Same Cx OpR UnR CallR R2 VK Inv EP RelV kV HOk ObjOk Un DGet DPut valV KV)

section
variable {X : Cx} {pins : List (Addr × Obj)} {σ : L2.St} {H : Hp} {s : Shared} {a : Addr}
theorem dK_dT {P : Program} {w : World} {h : Heap} {H' : Hp} (o : ObjOk P w H h a (.dK [])) : ObjOk P w H' h a (.dT []) := by
  obtain ⟨_, y, vs, r, ob, es, ep, e1, e2, e3, e4, e5, e6⟩ := o
  cases r
  have e7 : es.toList = [] := by
    generalize es.toList = l at e5
    cases e5
    rfl
  exact ⟨Nat.zero_le _, y, [], .nil, ob, es, ep, e1, e2, e3, e7, List.nodup_nil⟩
theorem dT_dK {P : Program} {w : World} {h : Heap} {H' : Hp} (o : ObjOk P w H h a (.dT [])) : ObjOk P w H' h a (.dK []) := by
  obtain ⟨_, y, vs, r, ob, es, ep, e1, e2, e3, e4, e5⟩ := o
  cases r
  have e7 : es = #[] := by
    have : es.toList = [] := e4
    exact Array.toList_eq_nil_iff.mp this
  subst e7
  refine ⟨Nat.zero_le _, y, [], .nil, ob, #[], ep, e1, e2, e3, ?_, .nil, List.nodup_nil⟩
  intro e he
  simp at he
theorem Inv.sortT (I : Inv X pins σ H s) (h : H a = some (.dK [])) : Inv X pins σ (upd H a (.dT [])) s := by
  have hx : ∃ u, s.heap.get? a = some u := by
    obtain ⟨_, _, _, _, ob, _, _, e, _⟩ := I.hok a _ h
    exact ⟨ob, e⟩
  exact I.un (t' := s.toks) (Un.write (by rw [h]; trivial) (.inl rfl) (fun b u _ e => e) hx) (HOk.write I.hok (by rw [h]; trivial) (.inl rfl) (fun b u _ e => e) hx (dK_dT (I.hok a _ h)))
theorem Inv.sortK (I : Inv X pins σ H s) (h : H a = some (.dT [])) : Inv X pins σ (upd H a (.dK [])) s := by
  have hx : ∃ u, s.heap.get? a = some u := by
    obtain ⟨_, _, _, _, ob, _, _, e, _⟩ := I.hok a _ h
    exact ⟨ob, e⟩
  exact I.un (t' := s.toks) (Un.write (by rw [h]; trivial) (.inl rfl) (fun b u _ e => e) hx) (HOk.write I.hok (by rw [h]; trivial) (.inl rfl) (fun b u _ e => e) hx (dT_dK (I.hok a _ h)))
theorem upd_back {o u : HO} (h : H a = some o) : upd (upd H a u) a o = H := by
  funext b
  by_cases e : b = a
  · subst e; rw [upd_same, h]
  · rw [upd_ne e, upd_ne e]
/-- a key that can't be in an empty dict as it stands -/
def Odd (H : Hp) (a : Addr) (x : V) : Prop := (H a = some (.dK []) ∧ ∃ (b : Addr) (ks : List L2.Key), x = .ref b ∧ H b = some (.tup (ks.map kV))) ∨ (H a = some (.dT []) ∧ ∃ k : L2.Key, x = kV k)
theorem Odd.go (I : Inv X pins σ H s) {x : V} (h : Odd H a x) : ∃ u o, H a = some o ∧ Inv X pins σ (upd H a u) s ∧ DGet (upd H a u) a x none ∧ ∀ s', Inv X pins σ (upd H a u) s' → Inv X pins σ H s' := by
  rcases h with ⟨h, b, ks, rfl, hb⟩ | ⟨h, k, rfl⟩
  · have hne : b ≠ a := L2.ne_of hb h (fun z => nomatch z)
    refine ⟨_, _, h, Inv.sortT I h, .inr ⟨[], ks, b, .inl upd_same, rfl, by rw [upd_ne hne]; exact hb, rfl⟩, fun s' I' => ?_⟩
    have := Inv.sortK I' upd_same
    rwa [upd_back h] at this
  · refine ⟨_, _, h, Inv.sortK I h, .inl ⟨[], k, .inl upd_same, rfl, rfl⟩, fun s' I' => ?_⟩
    have := Inv.sortT I' upd_same
    rwa [upd_back h] at this
def rInO (neg : Bool) : R2 := fun x y H Q => ∃ a, y = .ref a ∧ Odd H a x ∧ Q (.bl neg) H
theorem op_inO (hu : X.A.units + 1 < cLine) : OpR X (compareOp .In) (rInO false) := by
  intro pins s σ H x y v u Q I rx ry ⟨a, e, od, q⟩
  subst e
  cases (show u = Value.ref a from ry)
  obtain ⟨_, _, _, I', g, bk⟩ := od.go I
  exact L2.d_in hu I' g rx fun s3 I3 => ⟨.bl _, H, bk s3 I3, rfl, q⟩
theorem op_notInO (hu : X.A.units + 1 < cLine) : OpR X (compareOp .NotIn) (rInO true) := by
  intro pins s σ H x y v u Q I rx ry ⟨a, e, od, q⟩
  subst e
  cases (show u = Value.ref a from ry)
  obtain ⟨_, _, _, I', g, bk⟩ := od.go I
  exact L2.d_notIn hu I' g rx fun s3 I3 => ⟨.bl _, H, bk s3 I3, rfl, q⟩
end

section
variable {K : PySem.W.Frag} {G : Addr → Prop} {H : Hp}
theorem atomKey_v {v : V} {x : D} {k : Key} (h : Dat K G H v x) (e : atomKey x = some k) : v = kV k := by
  cases h <;> simp only [atomKey, Option.some.injEq, reduceCtorEq] at e <;> subst e <;> rfl
theorem atomKeys_v {vs : List V} {xs : List D} {ks : List Key} (h : DatA K G H vs xs) (e : atomKeys xs = some ks) : vs = ks.map kV := by
  induction xs generalizing vs ks with
  | nil => cases h; cases e; rfl
  | cons x xs ih =>
    cases h with
    | cons h1 h2 =>
      simp only [atomKeys] at e
      split at e
      · rename_i a b e1 e2
        cases e
        rw [List.map_cons, atomKey_v h1 e1, ih h2 e2]
      · cases e
theorem dkey_v {v : V} {x : D} {k : DKey} {sc : Bool} (f : Fl K G H sc v x) (e : dkey x = some k) : match k with
    | .a q => v = kV q
    | .t ks => ∃ b, v = .ref b ∧ H b = some (.tup (ks.map kV)) := by
  cases x with
  | int i => cases e; exact f.int
  | str s => cases e; exact f.str
  | tuple xs =>
    simp only [dkey, Option.map_eq_some_iff] at e
    obtain ⟨ks, e1, rfl⟩ := e
    obtain ⟨b, vs, rfl, hb, ha⟩ := f.tup
    rw [atomKeys_v ha e1] at hb
    exact ⟨b, rfl, hb⟩
  | _ => cases e
/-- a value, if any -/
def OD (K : PySem.W.Frag) (G : Addr → Prop) (H : Hp) : Option V → Option D → Prop
  | some v, some d => Dat K G H v d
  | none, none => True
  | _, _ => False
theorem lookK_val : ∀ {kds : List (D × D)} {kvs : List (L2.Key × V)} {k : L2.Key}, DatK K G H kvs kds → OD K G H (valV kvs k) (lookK kds (.a k))
  | [], _, k, .nil => trivial
  | (kd, d) :: r, _, k, .cons (k := q) (v := v) (r := kvs') e h1 h2 => by
    have ih := lookK_val (k := k) h2
    unfold lookK
    rw [e]
    by_cases z : q = k
    · subst z
      rw [if_pos rfl, L2.valV_pos rfl]
      exact h1
    · rw [if_neg (fun y => z (by cases y; rfl)), L2.valV_neg z]
      exact ih
theorem lookK_valT : ∀ {kds : List (D × D)} {kvs : List (List L2.Key × V)} {k : List L2.Key}, DatT K G H kvs kds → OD K G H (valV kvs k) (lookK kds (.t k))
  | [], _, k, .nil => trivial
  | (kd, d) :: r, _, k, .cons (k := q) (v := v) (r := kvs') e h1 h2 => by
    have ih := lookK_valT (k := k) h2
    unfold lookK
    rw [e]
    by_cases z : q = k
    · subst z
      rw [if_pos rfl, L2.valV_pos rfl]
      exact h1
    · rw [if_neg (fun y => z (by cases y; rfl)), L2.valV_neg z]
      exact ih
theorem OD.som {o : Option V} {r : Option D} (h : OD K G H o r) : o.isSome = r.isSome := by
  cases o <;> cases r <;> first | rfl | exact h.elim
/-- looking up -/
theorem look_ok {v w : V} {kds : List (D × D)} {x : D} {r : Option D} {sc sc' : Bool} (fd : Fl K G H sc w (.dict kds)) (fx : Fl K G H sc' v x) (e : look kds x = .ok r) :
    ∃ a, w = .ref a ∧ ((∃ o, DGet H a v o ∧ OD K G H o r) ∨ (r = none ∧ Odd H a v)) := by
  unfold look at e
  split at e
  · rename_i k ek
    split at e
    · rename_i so
      cases e
      have hk := dkey_v fx ek
      obtain ⟨a, rfl, hd⟩ := fd.dict
      refine ⟨a, rfl, ?_⟩
      rcases hd with ⟨kvs, ha, dk⟩ | ⟨kvs, ha, dk⟩
      · cases k with
        | a q =>
          subst hk
          exact .inl ⟨_, .inl ⟨kvs, q, .inl ha, rfl, rfl⟩, lookK_val dk⟩
        | t ks =>
          obtain ⟨b, rfl, hb⟩ := hk
          cases dk with
          | nil => exact .inr ⟨rfl, .inl ⟨ha, b, ks, rfl, hb⟩⟩
          | cons e1 h1 h2 => simp only [sortOk, e1, Bool.false_eq_true] at so
      · cases k with
        | a q =>
          subst hk
          cases dk with
          | nil => exact .inr ⟨rfl, .inr ⟨ha, q, rfl⟩⟩
          | cons e1 h1 h2 => simp only [sortOk, e1, Bool.false_eq_true] at so
        | t ks =>
          obtain ⟨b, rfl, hb⟩ := hk
          exact .inl ⟨_, .inr ⟨kvs, ks, b, .inl ha, rfl, hb, rfl⟩, lookK_valT dk⟩
    · cases e
  · cases e

/-! ### in, not in -/
def rIn (K : PySem.W.Frag) : R2 := fun x y H Q => L2.rInD K x y H Q ∨ (rInT K false x y H Q ∨ (rInM false x y H Q ∨ rInO false x y H Q))
def rNotIn (K : PySem.W.Frag) : R2 := fun x y H Q => L2.rNotInD K x y H Q ∨ (rInT K true x y H Q ∨ (rInM true x y H Q ∨ rInO true x y H Q))
theorem sem_in : Op2 K .isin (rIn K) := by
  intro G H v w x y k z Q fx fy hd hl q
  obtain ⟨r, e, hd⟩ := bind_ok (show (inD x y >>= fun r => tellB r) = .ok (k, z) from hd)
  cases hd
  cases y <;> simp only [inD, reduceCtorEq] at e
  case list ds =>
    split at e
    · rename_i c
      cases e
      obtain ⟨s1, s2⟩ := Bool.and_eq_true_iff.mp c
      exact .inl ⟨x, ds, Fl.dp fx s1, Fl.dp fy s2, s1, s2, q _ _ (.dat hl (.bl _))⟩
    · cases e
  case tuple ds =>
    split at e
    · rename_i c
      cases e
      obtain ⟨s1, s2⟩ := Bool.and_eq_true_iff.mp c
      exact .inr (.inl ⟨x, ds, Fl.dp fx s1, Fl.dp fy s2, s1, s2, q _ _ (.dat hl (by rw [Bool.false_xor]; exact .bl _))⟩)
    · cases e
  case dict kds =>
    obtain ⟨r', e1, e⟩ := bind_ok e
    cases e
    obtain ⟨a, rfl, h⟩ := look_ok fy fx e1
    rcases h with ⟨o, g, h⟩ | ⟨rfl, od⟩
    · refine .inr (.inr (.inl ⟨a, o, rfl, g, q _ _ (.dat hl ?_)⟩))
      rw [h.som]
      first
        | (rw [Bool.false_xor]; exact .bl _)
        | (rw [Bool.true_xor]; exact .bl _)
    · exact .inr (.inr (.inr ⟨a, rfl, od, q _ _ (.dat hl (.bl _))⟩))
theorem sem_notin : Op2 K .notin (rNotIn K) := by
  intro G H v w x y k z Q fx fy hd hl q
  obtain ⟨r, e, hd⟩ := bind_ok (show (inD x y >>= fun r => tellB (!r)) = .ok (k, z) from hd)
  cases hd
  cases y <;> simp only [inD, reduceCtorEq] at e
  case list ds =>
    split at e
    · rename_i c
      cases e
      obtain ⟨s1, s2⟩ := Bool.and_eq_true_iff.mp c
      exact .inl ⟨x, ds, Fl.dp fx s1, Fl.dp fy s2, s1, s2, q _ _ (.dat hl (.bl _))⟩
    · cases e
  case tuple ds =>
    split at e
    · rename_i c
      cases e
      obtain ⟨s1, s2⟩ := Bool.and_eq_true_iff.mp c
      exact .inr (.inl ⟨x, ds, Fl.dp fx s1, Fl.dp fy s2, s1, s2, q _ _ (.dat hl (by rw [Bool.true_xor]; exact .bl _))⟩)
    · cases e
  case dict kds =>
    obtain ⟨r', e1, e⟩ := bind_ok e
    cases e
    obtain ⟨a, rfl, h⟩ := look_ok fy fx e1
    rcases h with ⟨o, g, h⟩ | ⟨rfl, od⟩
    · refine .inr (.inr (.inl ⟨a, o, rfl, g, q _ _ (.dat hl ?_)⟩))
      rw [h.som]
      first
        | (rw [Bool.false_xor]; exact .bl _)
        | (rw [Bool.true_xor]; exact .bl _)
    · exact .inr (.inr (.inr ⟨a, rfl, od, q _ _ (.dat hl (.bl _))⟩))
end
section
variable {X : Cx}
theorem op_in (hu : X.A.units + 65 < cLine) : OpR X (compareOp .In) (rIn X.K) :=
  OpR.or (L2.op_inD hu) (OpR.or (op_inT hu) (OpR.or (op_inM (by omega)) (op_inO (by omega))))
theorem op_notin (hu : X.A.units + 65 < cLine) : OpR X (compareOp .NotIn) (rNotIn X.K) :=
  OpR.or (L2.op_notInD hu) (OpR.or (op_notInT hu) (OpR.or (op_notInM (by omega)) (op_notInO (by omega))))
end
end PL
end

section
set_option Elab.async false
set_option linter.all false
set_option maxRecDepth 100000
set_option autoImplicit false
/-! SD3: None, places, slices, built-in functions. -/
namespace PL
open PySem PySem.Spec PyProof.Rows
open L2 (V Hp HO upd upd_same upd_ne SqL SqT Rd Same Cx OpR UnR CallR R2 VK Inv EP RelV kV HOk ObjOk Un DGet DPut valV KV)

section
variable {K : PySem.W.Frag} {G : Addr → Prop} {H : Hp}

/-! ### is None, is True -/
theorem Dat.isNone {v : V} {x : D} (h : Dat K G H v x) : decide (v = V.non) = isNoneD x := by
  cases h <;> simp [isNoneD]
theorem Fl.isNone {v : V} {x : D} {sc : Bool} (h : Fl K G H sc v x) : decide (v = V.non) = isNoneD x := by
  cases h with
  | dat h => exact h.isNone
  | _ => simp [isNoneD]
theorem sem_isNone : Op1 K .isNone (fun x H Q => Q (.bl (decide (x = .non))) H) := by
  intro G H v x k z Q fx hd hl q
  cases hd
  show Q (.bl (decide (v = .non))) H
  rw [fx.isNone]
  exact q _ _ (.dat hl (.bl _))
theorem sem_notNone : Op1 K .notNone (fun x H Q => Q (.bl (!decide (x = .non))) H) := by
  intro G H v x k z Q fx hd hl q
  cases hd
  show Q (.bl (!decide (v = .non))) H
  rw [fx.isNone]
  exact q _ _ (.dat hl (.bl _))
def isB (c : Bool) : V → Bool
  | .bl b => b == c
  | _ => false
theorem sem_isBool {c : Bool} : Op1 K (.isBool c) (fun x H Q => Q (.bl (isB c x)) H) := by
  intro G H v x k z Q fx hd hl q
  cases hd
  have e : isB c v = isBoolD c x := by
    cases fx with
    | dat h => cases h <;> rfl
    | _ => rfl
  show Q (.bl (isB c v)) H
  rw [e]
  exact q _ _ (.dat hl (.bl _))
/-! ### places -/
theorem atI_dat {vs : List V} {ds : List D} (h : DatA K G H vs ds) {i : Int} {x : D} (e : atI ds i = some x) : ∃ v, L2.atI vs i = some v ∧ Dat K G H v x := by
  unfold atI at e
  cases n : ixN ds.length i with
  | none => rw [n] at e; cases e
  | some j =>
    rw [n] at e
    obtain ⟨v, a, b⟩ := h.get (i := j) e
    refine ⟨v, ?_, b⟩
    show (L2.ixN vs.length i).bind _ = _
    rw [h.len]
    have : L2.ixN ds.length i = some j := n
    rw [this]
    exact a
def rIxM : R2 := fun x y H Q => ∃ a v, x = .ref a ∧ DGet H a y (some v) ∧ Q v H
def rIx (K : PySem.W.Frag) : R2 := fun x y H Q => (L2.rIxL K x y H Q ∨ L2.rIxT K x y H Q) ∨ rIxM x y H Q
theorem sem_ix : Op2 K .ix (rIx K) := by
  intro G H v w x y k z Q fx fy hd hl q
  cases x <;> (try cases y) <;> simp only [opD, reduceCtorEq] at hd
  case list.int ds i =>
    split at hd
    · rename_i r e
      cases hd
      obtain ⟨a, vs, rfl, ha, d⟩ := fx.listR
      obtain ⟨u, e1, d1⟩ := atI_dat d e
      exact .inl (.inl ⟨a, vs, i, u, rfl, fy.int, ha, e1, q _ _ (.dat hl d1)⟩)
    · cases hd
  case tuple.int ds i =>
    split at hd
    · rename_i r e
      cases hd
      obtain ⟨a, vs, rfl, ha, d⟩ := fx.tup
      obtain ⟨u, e1, d1⟩ := atI_dat d e
      exact .inl (.inr ⟨a, vs, i, u, rfl, fy.int, L2.SqT.of ha, e1, q _ _ (.dat hl d1)⟩)
    · cases hd
  all_goals
    obtain ⟨r, e, hd⟩ := bind_ok hd
    obtain ⟨a, rfl, h⟩ := look_ok fx fy e
    cases r with
    | none => cases hd
    | some d =>
      cases hd
      rcases h with ⟨o, g, h⟩ | ⟨h, _⟩
      · cases o with
        | none => exact h.elim
        | some u => exact .inr ⟨a, u, rfl, g, q _ _ (.dat hl h)⟩
      · cases h

/-! ### slices -/
theorem sIx_eq (n d : Nat) (o : Option Int) : sIx n d o = HT.sIx n d o := by cases o <;> rfl
theorem cut_dat {vs : List V} {ds : List D} (h : DatA K G H vs ds) (lo hi : Option Int) : DatA K G H (L2.cutV vs lo hi) (cut ds lo hi) := by
  unfold L2.cutV cut
  rw [h.len, sIx_eq, sIx_eq]
  exact (h.drop _).take _
theorem cutV_le (vs : List V) (lo hi : Option Int) {n : Nat} (h : vs.length ≤ n) : (L2.cutV vs lo hi).length ≤ n := Nat.le_trans (L2.cutV_length vs lo hi) h
def rSl (K : PySem.W.Frag) : V → Option Int → Option Int → Hp → VK → Prop := fun x lo hi H Q => L2.rSlL K x lo hi H Q ∨ L2.rSlA K x lo hi H Q
theorem HLen.l {a : Addr} {vs : List V} (l : HLen H) (h : H a = some (.lst vs)) : vs.length ≤ sizeLine := l a vs (.inl h)
theorem HLen.t {a : Addr} {vs : List V} (l : HLen H) (h : H a = some (.tup vs)) : vs.length ≤ sizeLine := l a vs (.inr h)
theorem sl_list_ok {v : V} {ds : List D} {lo hi : Option Int} {Q : VK} (f : Fl K G H false v (.list ds)) (hl : HLen H) (q : ∀ u H', Res K G H (.l .d) (.list (cut ds lo hi)) u H' → Q u H') : rSl K v lo hi H Q := by
  obtain ⟨a, vs, rfl, ha, d⟩ := f.list
  exact .inl ⟨a, vs, rfl, L2.SqL.of ha, fun p hp => q _ _ (.lst hl hp (cut_dat d lo hi) (cutV_le _ _ _ (hl.l ha)))⟩
theorem sl_tup_ok {v : V} {ds : List D} {lo hi : Option Int} {Q : VK} (f : Fl K G H false v (.tuple ds)) (hl : HLen H) (q : ∀ u H', Res K G H .d (.tuple (cut ds lo hi)) u H' → Q u H') : rSl K v lo hi H Q := by
  obtain ⟨a, vs, rfl, ha, d⟩ := f.tup
  refine .inr ⟨a, vs, rfl, L2.SqT.of ha, fun e => ?_, fun _ p hp => q _ _ (.tup hl hp (cut_dat d lo hi) (cutV_le _ _ _ (hl.t ha)))⟩
  have : cut ds lo hi = ds := by
    unfold cut
    rw [d.len, ← sIx_eq, ← sIx_eq] at e
    rw [e.1, e.2, List.drop_zero, Nat.sub_zero, List.take_length]
  rw [this] at q
  exact q _ _ (.dat hl (.tup ha d))
/-! ### built-in functions: one list of operands -/
theorem OpN.of1 {o : Op} {r : List V → Hp → VK → Prop} (h : ∀ (G : Addr → Prop) (H : Hp) (v : V) (x : D) (k : Kd) (z : D) (Q : VK), Fl K G H (scrOp o) v x → opD o [x] = .ok (k, z) → HLen H → (∀ u H', Res K G H k z u H' → Q u H') → r [v] H Q) : OpN K o 1 r := by
  intro G H vs xs k z Q hx hv fl hd hl q
  match xs, vs, hx, hv with
  | [x], [v], _, _ =>
    obtain ⟨v', e1, f1⟩ := fl 0 x rfl
    cases e1
    exact h G H v x k z Q f1 hd hl q
theorem OpN.of2 {o : Op} {r : List V → Hp → VK → Prop} (h : ∀ (G : Addr → Prop) (H : Hp) (v w : V) (x y : D) (k : Kd) (z : D) (Q : VK), Fl K G H (scrOp o) v x → Fl K G H (scrOp o) w y → opD o [x, y] = .ok (k, z) → HLen H → (∀ u H', Res K G H k z u H' → Q u H') → r [v, w] H Q) : OpN K o 2 r := by
  intro G H vs xs k z Q hx hv fl hd hl q
  match xs, vs, hx, hv with
  | [x, y], [v, w], _, _ =>
    obtain ⟨v', e1, f1⟩ := fl 0 x rfl
    obtain ⟨w', e2, f2⟩ := fl 1 y rfl
    cases e1; cases e2
    exact h G H v w x y k z Q f1 f2 hd hl q
def rLen (K : PySem.W.Frag) : List V → Hp → VK → Prop := fun xs H Q => (∃ p ys, xs = [.ref p] ∧ (SqL K H p ys ∨ SqT K H p ys) ∧ Q (.int ys.length) H) ∨
  ((∃ p kvs, xs = [.ref p] ∧ H p = some (.dK kvs) ∧ Q (.int (kvs.length : Nat)) H) ∨ ∃ p kvs, xs = [.ref p] ∧ H p = some (.dT kvs) ∧ Q (.int (kvs.length : Nat)) H)
theorem sem_len : OpN K .len 1 (rLen K) := .of1 fun G H v x k z Q fx hd hl q => by
  cases x <;> simp only [opD, reduceCtorEq] at hd <;> cases hd
  case list ds =>
    obtain ⟨a, vs, rfl, ha, d⟩ := fx.listR
    refine .inl ⟨a, vs, rfl, .inl ha, q _ _ (.dat hl ?_)⟩
    rw [d.len]; exact .int _
  case tuple ds =>
    obtain ⟨a, vs, rfl, ha, d⟩ := fx.tup
    refine .inl ⟨a, vs, rfl, .inr (L2.SqT.of ha), q _ _ (.dat hl ?_)⟩
    rw [d.len]; exact .int _
  case dict ds =>
    obtain ⟨a, rfl, h⟩ := fx.dict
    rcases h with ⟨kvs, ha, d⟩ | ⟨kvs, ha, d⟩
    · refine .inr (.inl ⟨a, kvs, rfl, ha, q _ _ (.dat hl ?_)⟩)
      rw [d.len]; exact .int _
    · refine .inr (.inr ⟨a, kvs, rfl, ha, q _ _ (.dat hl ?_)⟩)
      rw [d.len]; exact .int _
theorem sem_abs : OpN K .abs 1 (fun xs H Q => ∃ i, xs = [.int i] ∧ Q (.int (if i < 0 then -i else i)) H) := .of1 fun G H v x k z Q fx hd hl q => by
  cases x <;> simp only [opD, reduceCtorEq] at hd <;> cases hd
  rw [fx.int]
  exact ⟨_, rfl, q _ _ (.dat hl (.int _))⟩
theorem sem_int : OpN K .int 1 (fun xs H Q => (∃ i, xs = [.int i] ∧ Q (.int i) H) ∨ ∃ k, xs = [.bl k] ∧ Q (.int (if k then 1 else 0)) H) := .of1 fun G H v x k z Q fx hd hl q => by
  cases x <;> simp only [opD, reduceCtorEq] at hd <;> cases hd
  rw [fx.int]
  exact .inl ⟨_, rfl, q _ _ (.dat hl (.int _))⟩
theorem sem_min2 : OpN K .min2 2 (fun xs H Q => ∃ i j, xs = [.int i, .int j] ∧ Q (.int (if j < i then j else i)) H) := .of2 fun G H v w x y k z Q fx fy hd hl q => by
  cases x <;> cases y <;> simp only [opD, reduceCtorEq] at hd <;> cases hd
  rw [fx.int, fy.int]
  exact ⟨_, _, rfl, q _ _ (.dat hl (.int _))⟩
theorem sem_max2 : OpN K .max2 2 (fun xs H Q => ∃ i j, xs = [.int i, .int j] ∧ Q (.int (if j > i then j else i)) H) := .of2 fun G H v w x y k z Q fx fy hd hl q => by
  cases x <;> cases y <;> simp only [opD, reduceCtorEq] at hd <;> cases hd
  rw [fx.int, fy.int]
  exact ⟨_, _, rfl, q _ _ (.dat hl (.int _))⟩
theorem maxI_ge : ∀ (ns : List Int) (m : Int), m ≤ maxI ns m ∧ (∀ y ∈ ns, y ≤ maxI ns m) ∧ (maxI ns m = m ∨ maxI ns m ∈ ns)
  | [], m => ⟨Int.le_refl _, fun _ h => (List.not_mem_nil h).elim, .inl rfl⟩
  | x :: xs, m => by
    obtain ⟨a, b, c⟩ := maxI_ge xs (if x > m then x else m)
    unfold maxI
    refine ⟨?_, fun y hy => ?_, ?_⟩
    · split at a <;> split <;> omega
    · rcases List.mem_cons.mp hy with e | e
      · subst e; split at a <;> split <;> omega
      · exact b y e
    · rcases c with c | c
      · by_cases h : x > m
        · rw [if_pos h] at c ⊢; exact .inr (by rw [c]; exact List.mem_cons_self)
        · rw [if_neg h] at c ⊢; exact .inl c
      · exact .inr (List.mem_cons_of_mem _ c)
theorem minI_le : ∀ (ns : List Int) (m : Int), minI ns m ≤ m ∧ (∀ y ∈ ns, minI ns m ≤ y) ∧ (minI ns m = m ∨ minI ns m ∈ ns)
  | [], m => ⟨Int.le_refl _, fun _ h => (List.not_mem_nil h).elim, .inl rfl⟩
  | x :: xs, m => by
    obtain ⟨a, b, c⟩ := minI_le xs (if x < m then x else m)
    unfold minI
    refine ⟨?_, fun y hy => ?_, ?_⟩
    · split at a <;> split <;> omega
    · rcases List.mem_cons.mp hy with e | e
      · subst e; split at a <;> split <;> omega
      · exact b y e
    · rcases c with c | c
      · by_cases h : x < m
        · rw [if_pos h] at c ⊢; exact .inr (by rw [c]; exact List.mem_cons_self)
        · rw [if_neg h] at c ⊢; exact .inl c
      · exact .inr (List.mem_cons_of_mem _ c)
theorem sem_maxL : OpN K .maxL 1 (L2.rMax K) := .of1 fun G H v x k z Q fx hd hl q => by
  cases x <;> simp only [opD, reduceCtorEq] at hd
  rename_i ds
  split at hd
  · rename_i n ns e
    cases hd
    obtain ⟨a, vs, rfl, ha, d⟩ := fx.list
    obtain ⟨rfl, _⟩ := d.ints e
    refine ⟨a, n :: ns, rfl, L2.SqL.of ha, by simp, fun m hm hle => ?_⟩
    obtain ⟨g1, g2, g3⟩ := maxI_ge ns n
    have e1 : m = maxI ns n := by
      have h1 : m ≤ maxI ns n := (List.mem_cons.mp hm).elim (fun z => by omega) (g2 m)
      have h2 : maxI ns n ≤ m := g3.elim (fun z => by rw [z]; exact hle n List.mem_cons_self) fun z => hle _ (List.mem_cons_of_mem _ z)
      omega
    rw [e1]
    exact q _ _ (.dat hl (.int _))
  · cases hd
theorem sem_minL : OpN K .minL 1 (L2.rMin K) := .of1 fun G H v x k z Q fx hd hl q => by
  cases x <;> simp only [opD, reduceCtorEq] at hd
  rename_i ds
  split at hd
  · rename_i n ns e
    cases hd
    obtain ⟨a, vs, rfl, ha, d⟩ := fx.list
    obtain ⟨rfl, _⟩ := d.ints e
    refine ⟨a, n :: ns, rfl, L2.SqL.of ha, by simp, fun m hm hle => ?_⟩
    obtain ⟨g1, g2, g3⟩ := minI_le ns n
    have e1 : m = minI ns n := by
      have h1 : minI ns n ≤ m := (List.mem_cons.mp hm).elim (fun z => by omega) (g2 m)
      have h2 : m ≤ minI ns n := g3.elim (fun z => by rw [z]; exact hle n List.mem_cons_self) fun z => hle _ (List.mem_cons_of_mem _ z)
      omega
    rw [e1]
    exact q _ _ (.dat hl (.int _))
  · cases hd
theorem sem_sum : OpN K .sum 1 (L2.rSum K) := .of1 fun G H v x k z Q fx hd hl q => by
  cases x <;> simp only [opD, reduceCtorEq] at hd
  split at hd
  · rename_i ns e
    cases hd
    obtain ⟨a, vs, rfl, ha, d⟩ := fx.list
    obtain ⟨rfl, _⟩ := d.ints e
    exact ⟨a, ns, rfl, L2.SqL.of ha, q _ _ (.dat hl (.int _))⟩
  · cases hd
theorem sem_any : OpN K .any 1 (L2.rAny K) := .of1 fun G H v x k z Q fx hd hl q => by
  cases x <;> simp only [opD, reduceCtorEq] at hd
  split at hd
  · rename_i bs e
    cases hd
    obtain ⟨a, vs, rfl, ha, d⟩ := fx.list
    have := d.bools e
    subst this
    exact ⟨a, bs, rfl, L2.SqL.of ha, q _ _ (.dat hl (.bl _))⟩
  · cases hd
theorem sem_all : OpN K .all 1 (L2.rAll K) := .of1 fun G H v x k z Q fx hd hl q => by
  cases x <;> simp only [opD, reduceCtorEq] at hd
  split at hd
  · rename_i bs e
    cases hd
    obtain ⟨a, vs, rfl, ha, d⟩ := fx.list
    have := d.bools e
    subst this
    exact ⟨a, bs, rfl, L2.SqL.of ha, q _ _ (.dat hl (.bl _))⟩
  · cases hd
theorem sem_tuple : OpN K .tuple 1 (fun xs H Q => ∃ p ys, xs = [.ref p] ∧ ((SqL K H p ys ∧ ∀ l, H l = none → Q (.ref l) (upd H l (.tup ys))) ∨ (SqT K H p ys ∧ Q (.ref p) H))) := .of1 fun G H v x k z Q fx hd hl q => by
  cases x <;> simp only [opD, reduceCtorEq] at hd <;> cases hd
  case list ds =>
    obtain ⟨a, vs, rfl, ha, d⟩ := fx.list
    exact ⟨a, vs, rfl, .inl ⟨L2.SqL.of ha, fun p hp => q _ _ (.tup hl hp d (hl.l ha))⟩⟩
  case tuple ds =>
    obtain ⟨a, vs, rfl, ha, d⟩ := fx.tup
    exact ⟨a, vs, rfl, .inr ⟨L2.SqT.of ha, q _ _ (.dat hl (.tup ha d))⟩⟩
theorem sem_list : OpN K .list 1 (fun xs H Q => ∃ p ys, xs = [.ref p] ∧ (SqL K H p ys ∨ SqT K H p ys) ∧ ∀ l, H l = none → Q (.ref l) (upd H l (.lst ys))) := .of1 fun G H v x k z Q fx hd hl q => by
  cases x <;> simp only [opD, reduceCtorEq] at hd <;> cases hd
  case list ds =>
    obtain ⟨a, vs, rfl, ha, d⟩ := fx.list
    exact ⟨a, vs, rfl, .inl (L2.SqL.of ha), fun p hp => q _ _ (.lst hl hp d (hl.l ha))⟩
  case tuple ds =>
    obtain ⟨a, vs, rfl, ha, d⟩ := fx.tup
    exact ⟨a, vs, rfl, .inr (L2.SqT.of ha), fun p hp => q _ _ (.lst hl hp d (hl.t ha))⟩

/-! ### isinstance -/
def tyName : D → String
  | .none => "NoneType"
  | .bool _ => "bool"
  | .int _ => "int"
  | .str _ => "str"
  | .list _ => "list"
  | .tuple _ => "tuple"
  | .dict _ => "dict"
theorem Fl.ty {v : V} {x : D} (f : Fl K G H false v x) : L2.TyX K H v (.type (tyName x)) := by
  cases f with
  | dat h =>
    cases h with
    | non => exact .base .non
    | bl b => exact .base (.bl b)
    | int i => exact .base (.int i)
    | str s => exact .base (.str s)
    | tup a _ => exact .base (.tup a)
    | lst _ a _ => exact .base (.lst a)
    | dK _ a _ => exact .base (.dK a)
    | dT _ a _ => exact .base (.dT a)
  | s z => cases z
  | l a _ => exact .base (.lst a)
  | mK a _ => exact .base (.dK a)
  | mT a _ => exact .base (.dT a)
theorem isinst_ok {v : V} {x : D} {T : String} {b : Bool} {Q : VK} (f : Fl K G H false v x) (e : L2.kitB (tyName x) T = some b) (q : Q (.bl b) H) : L2.rIsi K [v, .ty T] H Q :=
  ⟨v, .ty T, .type (tyName x), .type T, b, rfl, .ty T, f.ty, L2.kit_ty e, q⟩
theorem kit_int : ∀ x : D, L2.kitB (tyName x) "int" = some (isIntT x)
  | .none => (by decide +kernel : L2.kitB "NoneType" "int" = some false)
  | .bool _ => (by decide +kernel : L2.kitB "bool" "int" = some true)
  | .int _ => (by decide +kernel : L2.kitB "int" "int" = some true)
  | .str _ => (by decide +kernel : L2.kitB "str" "int" = some false)
  | .list _ => (by decide +kernel : L2.kitB "list" "int" = some false)
  | .tuple _ => (by decide +kernel : L2.kitB "tuple" "int" = some false)
  | .dict _ => (by decide +kernel : L2.kitB "dict" "int" = some false)
theorem kit_bool : ∀ x : D, L2.kitB (tyName x) "bool" = some (isBoolT x)
  | .none => (by decide +kernel : L2.kitB "NoneType" "bool" = some false)
  | .bool _ => (by decide +kernel : L2.kitB "bool" "bool" = some true)
  | .int _ => (by decide +kernel : L2.kitB "int" "bool" = some false)
  | .str _ => (by decide +kernel : L2.kitB "str" "bool" = some false)
  | .list _ => (by decide +kernel : L2.kitB "list" "bool" = some false)
  | .tuple _ => (by decide +kernel : L2.kitB "tuple" "bool" = some false)
  | .dict _ => (by decide +kernel : L2.kitB "dict" "bool" = some false)
theorem kit_tuple : ∀ x : D, L2.kitB (tyName x) "tuple" = some (isTupT x)
  | .none => (by decide +kernel : L2.kitB "NoneType" "tuple" = some false)
  | .bool _ => (by decide +kernel : L2.kitB "bool" "tuple" = some false)
  | .int _ => (by decide +kernel : L2.kitB "int" "tuple" = some false)
  | .str _ => (by decide +kernel : L2.kitB "str" "tuple" = some false)
  | .list _ => (by decide +kernel : L2.kitB "list" "tuple" = some false)
  | .tuple _ => (by decide +kernel : L2.kitB "tuple" "tuple" = some true)
  | .dict _ => (by decide +kernel : L2.kitB "dict" "tuple" = some false)
theorem kit_str : ∀ x : D, L2.kitB (tyName x) "str" = some (isStrT x)
  | .none => (by decide +kernel : L2.kitB "NoneType" "str" = some false)
  | .bool _ => (by decide +kernel : L2.kitB "bool" "str" = some false)
  | .int _ => (by decide +kernel : L2.kitB "int" "str" = some false)
  | .str _ => (by decide +kernel : L2.kitB "str" "str" = some true)
  | .list _ => (by decide +kernel : L2.kitB "list" "str" = some false)
  | .tuple _ => (by decide +kernel : L2.kitB "tuple" "str" = some false)
  | .dict _ => (by decide +kernel : L2.kitB "dict" "str" = some false)
theorem kit_list : ∀ x : D, L2.kitB (tyName x) "list" = some (isLstT x)
  | .none => (by decide +kernel : L2.kitB "NoneType" "list" = some false)
  | .bool _ => (by decide +kernel : L2.kitB "bool" "list" = some false)
  | .int _ => (by decide +kernel : L2.kitB "int" "list" = some false)
  | .str _ => (by decide +kernel : L2.kitB "str" "list" = some false)
  | .list _ => (by decide +kernel : L2.kitB "list" "list" = some true)
  | .tuple _ => (by decide +kernel : L2.kitB "tuple" "list" = some false)
  | .dict _ => (by decide +kernel : L2.kitB "dict" "list" = some false)
theorem sem_isInt : Op1 K .isInt (fun x H Q => L2.rIsi K [x, .ty "int"] H Q) := fun G H v x k z Q fx hd hl q => isinst_ok fx (kit_int x) (by cases hd; exact q _ _ (.dat hl (.bl _)))
theorem sem_isBoolT : Op1 K .isBoolT (fun x H Q => L2.rIsi K [x, .ty "bool"] H Q) := fun G H v x k z Q fx hd hl q => isinst_ok fx (kit_bool x) (by cases hd; exact q _ _ (.dat hl (.bl _)))
theorem sem_isTuple : Op1 K .isTuple (fun x H Q => L2.rIsi K [x, .ty "tuple"] H Q) := fun G H v x k z Q fx hd hl q => isinst_ok fx (kit_tuple x) (by cases hd; exact q _ _ (.dat hl (.bl _)))
theorem sem_isStr : Op1 K .isStr (fun x H Q => L2.rIsi K [x, .ty "str"] H Q) := fun G H v x k z Q fx hd hl q => isinst_ok fx (kit_str x) (by cases hd; exact q _ _ (.dat hl (.bl _)))
theorem sem_isList : Op1 K .isList (fun x H Q => L2.rIsi K [x, .ty "list"] H Q) := fun G H v x k z Q fx hd hl q => isinst_ok fx (kit_list x) (by cases hd; exact q _ _ (.dat hl (.bl _)))

/-! ### ranges made lists -/
theorem rgV_dat (a b : Int) : DatA K G H (L2.rgV a b) (rangeUp a b) := by
  unfold L2.rgV rangeUp
  induction (List.range (b - a).toNat) with
  | nil => exact .nil
  | cons n ns ih => exact .cons (.int _) ih
end
end PL
end

section
set_option Elab.async false
set_option linter.all false
set_option maxRecDepth 100000
set_option autoImplicit false
/-! SE2: the expressions of the text, one after another. -/
namespace PL
open PySem PySem.Spec PyProof.Rows
open L2 (V Hp HO upd upd_same upd_ne SqL SqT Rd Same Cx OpR UnR CallR R2 VK Inv EP RelV)

section
variable {S : Stat}
/-- an outcome that is data -/
theorem fin_dat {R : Addr → Prop} {σ : L2.St} {H H' : Hp} {ρ' : Env} {Fs Fs' : List (List Addr)} {x : D} {v : V} {Q : VK} (st : StOk S.K R σ ρ' Fs' H') (d : Dat S.K (GG R Fs'.flatten) H' v x) (step : Step S.K Fs.flatten H Fs'.flatten H')
    (q : ∀ v H' Fs' Fr, noS .d = true → StOk S.K (GG R Fr) σ ρ' Fs' H' → Own S.K (GG (GG R Fr) Fs'.flatten) H' .d v x Fr → Fr.Nodup → (∀ a ∈ Fr, ¬ R a) → Step S.K Fs.flatten H (Fs'.flatten ++ Fr) H' → Q v H') : Q v H' :=
  q v H' Fs' [] rfl (st.lessR fun a z => GG_nil z) (.d (Dat.pres (Pres.less fun a z => z.imp GG_nil id) _ _ d)) List.nodup_nil (fun _ z => (List.not_mem_nil z).elim) (by rw [List.append_nil]; exact step)

/-! ### names, constants -/
def visN (nm : List (Str × NameKind)) (x : Str) : Bool := match nm.lookup x with
  | some .local => true
  | some .cell => true
  | some .free => true
  | _ => false
theorem vis_ok {X : Cx} (h : In S X) {x : Str} (v : visN S.nm x = true) : L2.Vis X.env.scope x := by
  unfold visN at v
  unfold L2.Vis
  rw [h.nm]
  split at v
  · rename_i e; exact .inl e
  · rename_i e; exact .inr (.inl e)
  · rename_i e; exact .inr (.inr e)
  · cases v
theorem pec_var {x : Str} {pos : Pos} {i : Nat} (h1 : S.N[i]? = some x) (h2 : visN S.nm x = true) (h3 : (x == ("__debug__" : Str)) = false) (h4 : (x == ("__classdict__" : Str)) = false) : PEc S (.Name x pos) (L2.tVar i) :=
  .plain (fun X hX => L2.pe_var (by rw [hX.N]; exact h1) (vis_ok hX h2) h3 h4) rfl
theorem se_var {x : Str} {pos : Pos} {i : Nat} (pe : PEc S (.Name x pos) (L2.tVar i)) : SE S (.Name x pos) (.var i) := by
  refine ⟨_, pe, fun R σ H ρ Fs k y ρ' Q st ev q => ?_⟩
  have ev : readV ρ i = .ok ((k, y), ρ') := ev
  unfold readV at ev
  split at ev
  · rename_i x' e
    cases ev
    obtain ⟨v, F, a, b, c⟩ := st.slots.get e
    cases c with
    | d c => exact ⟨v, a, fin_dat st c Step.refl q⟩
  · rename_i k' x' _ e
    split at ev
    · rename_i ns
      cases ev
      obtain ⟨v, F, e1, e2, o, n, d1, d2, st'⟩ := st.take e
      refine ⟨v, e1, ?_⟩
      have hi : i < ρ.length := (List.getElem?_eq_some_iff.mp e).1
      have dat : Dat S.K (GG R (Fs.set i []).flatten) H v y := Own.freeze (fun a z => z.imp .inl id) _ _ _ _ ns (fun a ha z => z.elim (d1 a ha) (d2 a ha)) o
      have st2 : StOk S.K R σ (ρ.set i (some (.d, y))) (Fs.set i []) H :=
        StOk.put (F := []) (st'.lessR fun a z => .inl (GG_nil z)) hi e1 (.d (Dat.pres (Pres.less fun a z => z.imp GG_nil id) _ _ dat)) List.nodup_nil (fun _ z => (List.not_mem_nil z).elim)
      exact fin_dat st2 dat (Step.refl.sub fun a z => flat_less a z) q
    · cases ev
  · cases ev
theorem se_int {n : Int} {j : Nat} {pos : Pos} : SE S (.Constant (.int n) j pos) (.int n) :=
  ⟨_, .plain (fun X hX => L2.pe_int) rfl, fun R σ H ρ Fs k y ρ' Q st ev q => by cases ev; exact fin_dat st (.int _) Step.refl q⟩
theorem se_bl {b : Bool} {j : Nat} {pos : Pos} : SE S (.Constant (.bool b) j pos) (.bl b) :=
  ⟨_, .plain (fun X hX => L2.pe_bl) rfl, fun R σ H ρ Fs k y ρ' Q st ev q => by cases ev; exact fin_dat st (.bl _) Step.refl q⟩
theorem se_non {j : Nat} {pos : Pos} : SE S (.Constant .none j pos) .non :=
  ⟨_, .plain (fun X hX => L2.pe_non) rfl, fun R σ H ρ Fs k y ρ' Q st ev q => by cases ev; exact fin_dat st .non Step.refl q⟩
theorem se_str {s : Str} {j : Nat} {pos : Pos} : SE S (.Constant (.str s) j pos) (.str s) :=
  ⟨_, .plain (fun X hX => L2.pe_str) rfl, fun R σ H ρ Fs k y ρ' Q st ev q => by cases ev; exact fin_dat st (.str _) Step.refl q⟩

/-! ### displays -/
/-- values, as data -/
def SDs (S : Stat) (es : List Expr) (ps : List PE) : Prop := ∃ ts : List L2.TE, PEs S es ts ∧
  ∀ (R : Addr → Prop) (σ : L2.St) (H : Hp) (ρ : Env) (Fs : List (List Addr)) (ds : List D) (ρ' : Env) (Q : List V → Hp → Prop), StOk S.K R σ ρ Fs H → evalVs S.T ps ρ = .ok (ds, ρ') →
    (∀ vs H' Fs', StOk S.K R σ ρ' Fs' H' → DatA S.K (GG R Fs'.flatten) H' vs ds → Step S.K Fs.flatten H Fs'.flatten H' → Q vs H') → seqT ts σ H Q
theorem SDs.nil : SDs S [] [] := ⟨[], .nil, fun R σ H ρ Fs ds ρ' Q st ev q => by cases ev; exact q [] H Fs st .nil Step.refl⟩
theorem SDs.cons {e : Expr} {es : List Expr} {p : PE} {ps : List PE} (h : SD S e p) (hs : SDs S es ps) : SDs S (e :: es) (p :: ps) := by
  obtain ⟨t, pe, f⟩ := h
  obtain ⟨ts, pes, g⟩ := hs
  refine ⟨t :: ts, .cons pe pes, fun R σ H ρ Fs ds ρ' Q st ev q => ?_⟩
  obtain ⟨⟨⟨k, x⟩, ρ1⟩, e1, ev⟩ := ok_bnd (show (evalE S.T p ρ).bnd _ = _ from ev)
  obtain ⟨⟨ds', ρ2⟩, e2, ev⟩ := ok_bnd ev
  cases ev
  refine f R σ H ρ Fs k x ρ1 _ st e1 fun v H1 Fs1 st1 d1 s1 => ?_
  refine g R σ H1 ρ1 Fs1 ds' ρ' _ st1 e2 fun vs H2 Fs2 st2 d2 s2 => ?_
  exact q (v :: vs) H2 Fs2 st2 (.cons (Dat.pres (s2.pres fun a z => .inl z) _ _ d1) d2) (s1.trans s2)
def taOf : List L2.TE → L2.TA
  | [] => L2.tNil
  | t :: ts => L2.tCons t (taOf ts)
theorem taOf_eq : ∀ (ts : List L2.TE) (σ : L2.St) (H : Hp) (Q : List V → Hp → Prop), taOf ts σ H Q = seqT ts σ H Q
  | [], _, _, _ => rfl
  | t :: ts, σ, H, Q => by
    show t σ H (fun x H1 => taOf ts σ H1 fun xs H2 => Q (x :: xs) H2) = t σ H fun v H1 => seqT ts σ H1 fun vs H2 => Q (v :: vs) H2
    congr
    funext x H1
    rw [taOf_eq ts]
def noStar : Expr → Bool
  | .Starred _ _ => false
  | _ => true
theorem star_cons {e : Expr} (h : noStar e = true) (es : List Expr) (env : PySem.Env) : starEach (e :: es) env = (false, eval e env) :: starEach es env := by
  cases e <;> first | rfl | cases h
theorem star_plain {pos : Pos} {env : PySem.Env} : ∀ {es : List Expr}, es.all noStar = true → (backTo pos (starEach es env)).any (·.1) = false
  | [], _ => rfl
  | e :: es, h => by
    rw [List.all_cons, Bool.and_eq_true] at h
    rw [star_cons h.1]
    have := star_plain (pos := pos) (env := env) h.2
    show (false || _) = false
    rw [Bool.false_or]
    exact this
theorem pa_of {X : Cx} (hX : In S X) : ∀ {es : List Expr} {ts : List L2.TE}, PEs S es ts → es.all noStar = true → L2.PA X es (taOf ts)
  | _, _, .nil, _ => L2.pa_nil
  | e :: es, _, .cons h t, n => by
    rw [List.all_cons, Bool.and_eq_true] at n
    exact L2.pa_cons (h X hX).1 (pa_of hX t n.2) (star_cons n.1 es X.env)
theorem DatA.lenR {K : PySem.W.Frag} {G : Addr → Prop} {H : Hp} {vs : List V} {ds : List D} (h : DatA K G H vs ds) : ds.length = vs.length := h.len.symm
theorem evalVs_len {T : Tbl} : ∀ {ps : List PE} {ρ ρ' : Env} {ds : List D}, evalVs T ps ρ = .ok (ds, ρ') → ds.length = ps.length
  | [], _, _, _, e => by cases e; rfl
  | p :: ps, _, _, _, e => by
    obtain ⟨⟨r, ρ1⟩, e1, e⟩ := ok_bnd (show (evalE T p _).bnd _ = _ from e)
    obtain ⟨⟨rs', ρ2⟩, e2, e⟩ := ok_bnd e
    cases e
    simp only [List.length_cons, evalVs_len e2]
theorem se_tup {es : List Expr} {ps : List PE} {k : Nat} {pos : Pos} (h : SDs S es ps) (n : es.all noStar = true) (l : ps.length ≤ 1000) : SE S (.Tuple es k pos) (.tup ps) := by
  obtain ⟨ts, pes, f⟩ := h
  refine ⟨_, .plain (fun X hX => L2.pe_tup (pa_of hX pes n)) rfl, fun R σ H ρ Fs k y ρ' Q st ev q => ?_⟩
  obtain ⟨⟨ds, ρ1⟩, e1, ev⟩ := ok_bnd (show (evalVs S.T ps ρ).bnd _ = _ from ev)
  cases ev
  show taOf ts σ H _
  rw [taOf_eq]
  refine f R σ H ρ Fs ds ρ' _ st e1 fun vs H1 Fs1 st1 d1 s1 => ?_
  have hs : vs.length ≤ sizeLine := by
    rw [d1.len, evalVs_len e1]
    exact Nat.le_trans l (by decide)
  exact ⟨hs, fun p hp => SE.fin st1 (Res.tup st1.len hp d1 hs) s1 q⟩
theorem se_lst {es : List Expr} {ps : List PE} {pos : Pos} (h : SDs S es ps) (n : es.all noStar = true) (l : ps.length ≤ 1000) : SE S (.List es pos) (.lst ps) := by
  obtain ⟨ts, pes, f⟩ := h
  refine ⟨_, .plain (fun X hX => L2.pe_lst (pa_of hX pes n)) rfl, fun R σ H ρ Fs k y ρ' Q st ev q => ?_⟩
  obtain ⟨⟨ds, ρ1⟩, e1, ev⟩ := ok_bnd (show (evalVs S.T ps ρ).bnd _ = _ from ev)
  cases ev
  show taOf ts σ H _
  rw [taOf_eq]
  refine f R σ H ρ Fs ds ρ' _ st e1 fun vs H1 Fs1 st1 d1 s1 => ?_
  have hs : vs.length ≤ sizeLine := by
    rw [d1.len, evalVs_len e1]
    exact Nat.le_trans l (by decide)
  exact ⟨hs, fun p hp => SE.fin st1 (Res.lst st1.len hp d1 hs) s1 q⟩
theorem Res.dct {K : PySem.W.Frag} {G : Addr → Prop} {H : Hp} {p : Addr} (l : HLen H) (n : H p = none) : Res K G H (.m .d) (.dict []) (.ref p) (upd H p (.dK [])) :=
  ⟨same_upd n, l.dK, rfl, [p], by simp, fun a z => by rw [List.mem_singleton.mp z]; exact n, .mK upd_same (OwnK.of .nil)⟩
theorem se_dct {pos : Pos} : SE S (.Dict [] [] pos) .dct :=
  ⟨_, .plain (fun X hX => L2.pe_dnewK) rfl, fun R σ H ρ Fs k y ρ' Q st ev q => by cases ev; exact fun p hp => SE.fin st (Res.dct st.len hp) Step.refl q⟩

/-! ### operators -/
theorem se_bin {o : Op} {op : Operator} {r : R2} {a b : Expr} {pa pb : PE} {pos : Pos} (sem : Op2 S.K o r) (rule : ∀ X, In S X → OpR X (binaryOp op) r) (A : SG S a pa) (B : SG S b pb) : SE S (.BinOp a op b pos) (.op o [pa, pb]) :=
  SE.op2 A B sem fun ta tb ha hb => .plain (fun X hX => L2.pe_op (rule X hX) (ha X hX).1 (hb X hX).1) rfl
theorem se_cmp {o : Op} {op : CmpOp} {r : R2} {a b : Expr} {pa pb : PE} {pos : Pos} (sem : Op2 S.K o r) (rule : ∀ X, In S X → OpR X (compareOp op) r) (hm : behindInMarks op b = false) (A : SG S a pa) (B : SG S b pb) : SE S (.Compare a [op] [b] pos) (.op o [pa, pb]) :=
  SE.op2 A B sem fun ta tb ha hb X hX => ⟨L2.pe_cmpR (rule X hX) (ha X hX).1 (hb X hX).1 hm, fun _ => L2.pt_cmpR (rule X hX) (ha X hX).1 (hb X hX).1 hm⟩
theorem se_neg {a : Expr} {pa : PE} {pos : Pos} (A : SG S a pa) : SE S (.UnaryOp .USub a pos) (.op .neg [pa]) :=
  SE.op1 A sem_neg fun ta ha => .plain (fun X hX => L2.pe_un L2.un_neg (ha X hX).1) rfl
theorem se_isNone {a : Expr} {pa : PE} {pos pos' : Pos} {j : Nat} (A : SG S a pa) : SE S (.Compare a [.Is] [.Constant .none j pos'] pos) (.op .isNone [pa]) :=
  SE.op1 A sem_isNone fun ta ha X hX => ⟨L2.pe_cmp (L2.pc_isN (ha X hX).1) rfl, fun _ => L2.pt_cmp (L2.pc_isN (ha X hX).1) rfl⟩
theorem se_notNone {a : Expr} {pa : PE} {pos pos' : Pos} {j : Nat} (A : SG S a pa) : SE S (.Compare a [.IsNot] [.Constant .none j pos'] pos) (.op .notNone [pa]) :=
  SE.op1 A sem_notNone fun ta ha X hX => ⟨L2.pe_cmp (L2.pc_notN (ha X hX).1) rfl, fun _ => L2.pt_cmp (L2.pc_notN (ha X hX).1) rfl⟩
theorem op_isB {X : Cx} {c : Bool} : OpR X (compareOp .Is) (fun x y H Q => y = .bl c ∧ Q (.bl (isB c x)) H) := by
  intro pins s σ H x y v u Q I rx ry ⟨e, q⟩
  subst e
  obtain rfl : u = Value.bool c := ry
  cases x with
  | bl b =>
    obtain rfl : v = Value.bool b := rx
    by_cases h : b = c
    · subst h
      exact wpAny_is_self rfl ⟨.bl true, H, I, rfl, by simpa [isB] using q⟩
    · exact wpAny_is_other rfl (fun z => h (Value.bool.inj z)) ⟨.bl false, H, I, rfl, by
        have : (b == c) = false := beq_eq_false_iff_ne.mpr h
        simpa [isB, this] using q⟩
  | non => obtain rfl : v = Value.none := rx; exact wpAny_is_other rfl (fun z => nomatch z) ⟨.bl false, H, I, rfl, q⟩
  | int i => obtain ⟨t, rfl⟩ := rx; exact wpAny_is_other rfl (fun z => nomatch z) ⟨.bl false, H, I, rfl, q⟩
  | str i => obtain ⟨t, rfl⟩ := rx; exact wpAny_is_other rfl (fun z => nomatch z) ⟨.bl false, H, I, rfl, q⟩
  | byt i => obtain ⟨t, rfl⟩ := rx; exact wpAny_is_other rfl (fun z => nomatch z) ⟨.bl false, H, I, rfl, q⟩
  | flt i => obtain ⟨t, rfl⟩ := rx; exact wpAny_is_other rfl (fun z => nomatch z) ⟨.bl false, H, I, rfl, q⟩
  | ref a => obtain rfl : v = Value.ref a := rx; exact wpAny_is_other rfl (fun z => nomatch z) ⟨.bl false, H, I, rfl, q⟩
  | ty n => obtain rfl : v = Value.type n := rx; exact wpAny_is_other rfl (fun z => nomatch z) ⟨.bl false, H, I, rfl, q⟩
theorem pc_isB {X : Cx} {a : Expr} {ta : L2.TE} {c : Bool} {j : Nat} {pos' : Pos} (ha : L2.PE X a ta) : L2.PC X .Is a (.Constant (.bool c) j pos') (L2.tUn (fun x H Q => Q (.bl (isB c x)) H) ta) := by
  refine ⟨fun pins s σ H Q I h => ?_⟩
  refine L2.thn (ha.run pins s σ H _ I h) fun v s1 ⟨x, H1, I1, r1, q1⟩ => ?_
  exact Constant_bool (op_isB pins s1 σ H1 x (.bl c) v (.bool c) Q I1 r1 rfl ⟨rfl, q1⟩)
theorem se_isBool {a : Expr} {pa : PE} {pos pos' : Pos} {j : Nat} {c : Bool} (A : SG S a pa) : SE S (.Compare a [.Is] [.Constant (.bool c) j pos'] pos) (.op (.isBool c) [pa]) :=
  SE.op1 A sem_isBool fun ta ha X hX => ⟨L2.pe_cmp (pc_isB (ha X hX).1) rfl, fun _ => L2.pt_cmp (pc_isB (ha X hX).1) rfl⟩

/-! ### subscripts -/
theorem ix_map {X : Cx} (hu : X.A.units + 1 < cLine) : L2.IxR X rIxM := by
  intro value slice pins s σ H x y v u Q I rx ry ⟨a, z, e, g, q⟩ hs
  subst e
  obtain rfl : v = Value.ref a := rx
  exact PyProof.Rows.tail_any (L2.dict_typeIs I g) PySem.F.slot_dict_getitem.lookup (L2.d_getItem hu I g ry fun w' s3 I3 rw' => ⟨z, H, I3, rw', q⟩) hs
def noSlice : Expr → Bool
  | .Slice _ _ _ _ => false
  | _ => true
theorem plainIx_ok {b : Expr} (h : noSlice b = true) : L2.PlainIx b := by
  intro o i
  cases b <;> first | rfl | cases h
theorem se_ix {a b : Expr} {pa pb : PE} {pos : Pos} (hu : S.A.units + 1 < cLine) (h : noSlice b = true) (A : SG S a pa) (B : SG S b pb) : SE S (.Subscript a b pos) (.op .ix [pa, pb]) := by
  refine SE.op2 A B sem_ix fun ta tb ha hb => .plain (fun X hX => ?_) rfl
  have := L2.pe_ix (pos := pos) (L2.IxR.or (L2.IxR.or L2.ix_list L2.ix_tup) (ix_map (X := X) (by rw [hX.A]; exact hu))) (ha X hX).1 (hb X hX).1 (plainIx_ok h)
  have e := hX.K
  show L2.PE X _ (L2.tOp (rIx S.K) ta tb)
  exact e ▸ this
/-! ### slices -/
theorem sl_all {X : Cx} : L2.SlR X (rSl X.K) := L2.SlR.or L2.sl_list L2.sl_tupA
def PartOk (S : Stat) (b : Bool) (p : PE) (o : Option Expr) : Prop := ∃ t : L2.TO, (∀ X, In S X → L2.PO X o t) ∧
  ∀ (R : Addr → Prop) (σ : L2.St) (H : Hp) (ρ : Env) (Fs : List (List Addr)) (r : Option Int) (ρ' : Env) (Q : Option Int → Hp → Prop), StOk S.K R σ ρ Fs H →
    pAt b (evalE S.T p ρ) ρ = PL.R.ok (r, ρ') →
    (∀ H' Fs', StOk S.K R σ ρ' Fs' H' → Step S.K Fs.flatten H Fs'.flatten H' → Q r H') → t σ H Q
theorem part_none {p : PE} : PartOk S false p none := ⟨_, fun X hX => L2.po_none, fun R σ H ρ Fs r ρ' Q st ev q => by
  cases ev
  exact q H Fs st Step.refl⟩
theorem asInt_ok {x : D} {i : Int} (h : asInt x = .ok i) : x = .int i := by
  cases x <;> cases h
  rfl
theorem part_some {p : PE} {e : Expr} (h : SD S e p) : PartOk S true p (some e) := by
  obtain ⟨t, pe, f⟩ := h
  refine ⟨_, fun X hX => L2.po_some (pe X hX).1, fun R σ H ρ Fs r ρ' Q st ev q => ?_⟩
  obtain ⟨⟨⟨k, x⟩, ρ1⟩, e1, ev⟩ := ok_bnd (show (evalE S.T p ρ).bnd _ = _ from ev)
  obtain ⟨i, e2, ev⟩ := ok_bnd ev
  cases ev
  obtain rfl := asInt_ok e2
  refine f R σ H ρ Fs k _ ρ' _ st e1 fun v H1 Fs1 st1 d1 s1 => ?_
  cases d1
  exact ⟨i, rfl, q H1 Fs1 st1 s1⟩
theorem se_slc {a : Expr} {pa lo hi : PE} {bl bh : Bool} {el eh : Option Expr} {pos p2 : Pos} (A : SG S a pa) (L : PartOk S bl lo el) (U : PartOk S bh hi eh) : SE S (.Subscript a (.Slice el eh none p2) pos) (.slc [pa] bl lo bh hi) := by
  obtain ⟨ta, pea, fa⟩ := A
  obtain ⟨tl, pel, fl⟩ := L
  obtain ⟨tu, peu, fu⟩ := U
  refine ⟨L2.tSl (rSl S.K) ta tl tu, .plain (fun X hX => ?_) rfl, fun R σ H ρ Fs k x ρ' Q st ev q => ?_⟩
  · have := L2.pe_slice (p2 := p2) (pos := pos) (sl_all (X := X)) (pea X hX).1 (pel X hX) (peu X hX)
    exact hX.K ▸ this
  · obtain ⟨⟨rs, ρ1⟩, e1, ev⟩ := ok_bnd (show (evalAs S.T [pa] ρ).bnd _ = _ from ev)
    obtain ⟨⟨l, ρ2⟩, e2, ev⟩ := ok_bnd ev
    obtain ⟨⟨h, ρ3⟩, e3, ev⟩ := ok_bnd ev
    obtain ⟨ss, e4, ev⟩ := ok_bnd ev
    obtain ⟨s, e5, ev⟩ := ok_bnd ev
    cases ev
    rw [evalAs_cons] at e1
    obtain ⟨⟨r, ρ1'⟩, e1a, e1⟩ := ok_bnd e1
    cases e1
    refine fa R σ H ρ Fs r ρ1 _ st e1a fun v H1 Fs1 st1 a1 s1 => ?_
    refine fl R σ H1 ρ1 Fs1 l ρ2 _ st1 e2 fun H2 Fs2 st2 s2 => ?_
    refine fu R σ H2 ρ2 Fs2 h ρ' _ st2 e3 fun H3 Fs3 st3 s3 => ?_
    have ar : ArgsR S.K (GG R Fs3.flatten) H3 σ [v] [r] := ⟨(a1.step s2).step s3, trivial⟩
    have ag := fill_ok st3 ar e4
    match ss, ag with
    | [w], ⟨⟨F, o⟩, _⟩ =>
      unfold slV at e5
      split at e5
      · rename_i hf
        have hf1 : flat w.1 = true := by
          rw [List.all_cons, Bool.and_eq_true] at hf
          exact hf.1
        have fw : Fl S.K (GG R Fs3.flatten) H3 false v w.2 := o.fl (by rw [hf1]; rfl)
        obtain ⟨wk, wx⟩ := w
        have e5 : slD [wx] l h = .ok (k, x) := e5
        cases wx <;> simp only [slD, reduceCtorEq] at e5
        case list ds =>
          cases e5
          exact sl_list_ok fw st3.len fun u H' res => SE.fin st3 res (s1.trans (s2.trans s3)) q
        case tuple ds =>
          cases e5
          exact sl_tup_ok fw st3.len fun u H' res => SE.fin st3 res (s1.trans (s2.trans s3)) q
      · cases e5
end
end PL
end

section
set_option Elab.async false
set_option linter.all false
set_option maxRecDepth 100000
set_option autoImplicit false
/-! SE3: and, or, not, if-else; calls of built-in functions. -/
namespace PL
open PySem PySem.Spec PyProof.Rows
open L2 (V Hp HO upd upd_same upd_ne SqL SqT Rd Same Cx OpR UnR CallR R2 VK Inv EP RelV)

section
variable {S : Stat}
theorem asBool_ok {v : SV} {b : Bool} (h : asBool v = .ok b) : v = (.d, .bool b) := by
  obtain ⟨k, x⟩ := v
  cases k <;> cases x <;> cases h
  rfl
/-- a test out of a value -/
theorem SE.tt {e : Expr} {p : PE} (h : SE S e p) (ht : tst e = true) : STt S e p := by
  obtain ⟨t, pe, f⟩ := h
  refine ⟨_, fun X hX => (pe X hX).2 ht, fun R σ H ρ Fs b ρ' Q st ev q => ?_⟩
  refine f R σ H ρ Fs .d (.bool b) ρ' _ st ev fun v H' Fs' Fr ns st' o n d step => ?_
  cases o with
  | d o =>
    cases o
    refine ⟨b, rfl, q H' Fs' (st'.lessR fun a z => .inl z) ?_⟩
    rw [List.append_nil] at step
    exact step

/-! ### and, or: the last one any value, those ahead of it tests -/
theorem evalE_and {T : Tbl} {a b : PE} {ρ ρ' : Env} {v : SV} (ev : evalE T (.and a b) ρ = .ok (v, ρ')) : ∃ c ρ1, evalE T a ρ = .ok ((.d, .bool c), ρ1) ∧ if c = true then evalE T b ρ1 = .ok (v, ρ') else v = (.d, .bool false) ∧ ρ' = ρ1 := by
  obtain ⟨⟨w, ρ1⟩, e1, ev⟩ := ok_bnd (show (evalE T a ρ).bnd _ = _ from ev)
  obtain ⟨c, e2, ev⟩ := ok_bnd ev
  obtain rfl := asBool_ok e2
  refine ⟨c, ρ1, e1, ?_⟩
  cases c with
  | true => exact ev
  | false => cases ev; exact ⟨rfl, rfl⟩
theorem evalE_or {T : Tbl} {a b : PE} {ρ ρ' : Env} {v : SV} (ev : evalE T (.or a b) ρ = .ok (v, ρ')) : ∃ c ρ1, evalE T a ρ = .ok ((.d, .bool c), ρ1) ∧ if c = true then v = (.d, .bool true) ∧ ρ' = ρ1 else evalE T b ρ1 = .ok (v, ρ') := by
  obtain ⟨⟨w, ρ1⟩, e1, ev⟩ := ok_bnd (show (evalE T a ρ).bnd _ = _ from ev)
  obtain ⟨c, e2, ev⟩ := ok_bnd ev
  obtain rfl := asBool_ok e2
  refine ⟨c, ρ1, e1, ?_⟩
  cases c with
  | false => exact ev
  | true => cases ev; exact ⟨rfl, rfl⟩
/-- what may follow in a chain of ands: one value at the end -/
theorem se_one {op : BoolOp} {a : Expr} {pa : PE} {pos : Pos} (A : SE S a pa) : SE S (.BoolOp op [a] pos) pa := by
  obtain ⟨t, pe, f⟩ := A
  exact ⟨t, .not (fun X hX => L2.pe_one (pe X hX).1) rfl, f⟩
theorem se_and {a b : Expr} {rest : List Expr} {pa pb : PE} {pos : Pos} (A : SE S a pa) (B : SE S (.BoolOp .And (b :: rest) pos) pb) : SE S (.BoolOp .And (a :: b :: rest) pos) (.and pa pb) := by
  obtain ⟨ta, pea, fa⟩ := A
  obtain ⟨tb, peb, fb⟩ := B
  refine ⟨_, .not (fun X hX => L2.pe_and (pea X hX).1 (peb X hX).1) rfl, fun R σ H ρ Fs k x ρ' Q st ev q => ?_⟩
  obtain ⟨c, ρ1, e1, ev⟩ := evalE_and ev
  refine fa R σ H ρ Fs .d (.bool c) ρ1 _ st e1 fun v H1 Fs1 Fr ns st1 o n d s1 => ?_
  cases o with
  | d o =>
    cases o
    rw [List.append_nil] at s1
    have st1' : StOk S.K R σ ρ1 Fs1 H1 := st1.lessR fun a z => .inl z
    refine ⟨c, rfl, ?_⟩
    cases c with
    | true =>
      rw [if_pos rfl] at ev ⊢
      exact fb R σ H1 ρ1 Fs1 k x ρ' Q st1' ev fun v H2 Fs2 Fr ns st2 o n d s2 => q v H2 Fs2 Fr ns st2 o n d (s1.trans s2)
    | false =>
      rw [if_neg Bool.false_ne_true] at ev ⊢
      obtain ⟨e, rfl⟩ := ev
      cases e
      exact fin_dat st1' (.bl _) s1 q
theorem se_or {a b : Expr} {rest : List Expr} {pa pb : PE} {pos : Pos} (A : SE S a pa) (B : SE S (.BoolOp .Or (b :: rest) pos) pb) : SE S (.BoolOp .Or (a :: b :: rest) pos) (.or pa pb) := by
  obtain ⟨ta, pea, fa⟩ := A
  obtain ⟨tb, peb, fb⟩ := B
  refine ⟨_, .not (fun X hX => L2.pe_or (pea X hX).1 (peb X hX).1) rfl, fun R σ H ρ Fs k x ρ' Q st ev q => ?_⟩
  obtain ⟨c, ρ1, e1, ev⟩ := evalE_or ev
  refine fa R σ H ρ Fs .d (.bool c) ρ1 _ st e1 fun v H1 Fs1 Fr ns st1 o n d s1 => ?_
  cases o with
  | d o =>
    cases o
    rw [List.append_nil] at s1
    have st1' : StOk S.K R σ ρ1 Fs1 H1 := st1.lessR fun a z => .inl z
    refine ⟨c, rfl, ?_⟩
    cases c with
    | false =>
      rw [if_neg Bool.false_ne_true] at ev ⊢
      exact fb R σ H1 ρ1 Fs1 k x ρ' Q st1' ev fun v H2 Fs2 Fr ns st2 o n d s2 => q v H2 Fs2 Fr ns st2 o n d (s1.trans s2)
    | true =>
      rw [if_pos rfl] at ev ⊢
      obtain ⟨e, rfl⟩ := ev
      cases e
      exact fin_dat st1' (.bl _) s1 q
theorem se_not {a : Expr} {pa : PE} {pos : Pos} (A : SE S a pa) : SE S (.UnaryOp .Not a pos) (.not pa) := by
  obtain ⟨ta, pea, fa⟩ := A
  refine ⟨_, .not (fun X hX => L2.pe_not (pea X hX).1) rfl, fun R σ H ρ Fs k x ρ' Q st ev q => ?_⟩
  obtain ⟨⟨w, ρ1⟩, e1, ev⟩ := ok_bnd (show (evalE S.T pa ρ).bnd _ = _ from ev)
  obtain ⟨c, e2, ev⟩ := ok_bnd ev
  obtain rfl := asBool_ok e2
  cases ev
  refine fa R σ H ρ Fs .d (.bool c) ρ' _ st e1 fun v H1 Fs1 Fr ns st1 o n d s1 => ?_
  cases o with
  | d o =>
    cases o
    rw [List.append_nil] at s1
    exact ⟨c, rfl, fin_dat (st1.lessR fun a z => .inl z) (.bl _) s1 q⟩

/-! ### as tests -/
/-- a chain of tests, whatever its whole is -/
def SW (S : Stat) (e : Expr) (p : PE) : Prop := ∃ t : L2.TT, (∀ X, In S X → L2.PW X e t) ∧
  ∀ (R : Addr → Prop) (σ : L2.St) (H : Hp) (ρ : Env) (Fs : List (List Addr)) (b : Bool) (ρ' : Env) (Q : Bool → Hp → Prop), StOk S.K R σ ρ Fs H → evalE S.T p ρ = .ok ((.d, .bool b), ρ') →
    (∀ H' Fs', StOk S.K R σ ρ' Fs' H' → Step S.K Fs.flatten H Fs'.flatten H' → Q b H') → t σ H Q
theorem SW.tt {e : Expr} {p : PE} (h : SW S e p) : STt S e p := by
  obtain ⟨t, pe, f⟩ := h
  exact ⟨t, fun X hX => (pe X hX).pt, f⟩
theorem sw_and1 {a : Expr} {pa : PE} {pos : Pos} (A : STt S a pa) : SW S (.BoolOp .And [a] pos) pa := by
  obtain ⟨t, pe, f⟩ := A
  exact ⟨t, fun X hX => L2.pw_and1 (pe X hX), f⟩
theorem sw_or1 {a : Expr} {pa : PE} {pos : Pos} (A : STt S a pa) : SW S (.BoolOp .Or [a] pos) pa := by
  obtain ⟨t, pe, f⟩ := A
  exact ⟨t, fun X hX => L2.pw_or1 (pe X hX), f⟩
theorem sw_and {a b : Expr} {rest : List Expr} {pa pb : PE} {pos : Pos} (A : STt S a pa) (B : SW S (.BoolOp .And (b :: rest) pos) pb) : SW S (.BoolOp .And (a :: b :: rest) pos) (.and pa pb) := by
  obtain ⟨ta, pea, fa⟩ := A
  obtain ⟨tb, peb, fb⟩ := B
  refine ⟨_, fun X hX => L2.pw_and (pea X hX) (peb X hX), fun R σ H ρ Fs b ρ' Q st ev q => ?_⟩
  obtain ⟨c, ρ1, e1, ev⟩ := evalE_and ev
  refine fa R σ H ρ Fs c ρ1 _ st e1 fun H1 Fs1 st1 s1 => ?_
  cases c with
  | true =>
    rw [if_pos rfl] at ev ⊢
    exact fb R σ H1 ρ1 Fs1 b ρ' Q st1 ev fun H2 Fs2 st2 s2 => q H2 Fs2 st2 (s1.trans s2)
  | false =>
    rw [if_neg Bool.false_ne_true] at ev ⊢
    obtain ⟨e, rfl⟩ := ev
    cases e
    exact q H1 Fs1 st1 s1
theorem sw_or {a b : Expr} {rest : List Expr} {pa pb : PE} {pos : Pos} (A : STt S a pa) (B : SW S (.BoolOp .Or (b :: rest) pos) pb) : SW S (.BoolOp .Or (a :: b :: rest) pos) (.or pa pb) := by
  obtain ⟨ta, pea, fa⟩ := A
  obtain ⟨tb, peb, fb⟩ := B
  refine ⟨_, fun X hX => L2.pw_or (pea X hX) (peb X hX), fun R σ H ρ Fs b ρ' Q st ev q => ?_⟩
  obtain ⟨c, ρ1, e1, ev⟩ := evalE_or ev
  refine fa R σ H ρ Fs c ρ1 _ st e1 fun H1 Fs1 st1 s1 => ?_
  cases c with
  | false =>
    rw [if_neg Bool.false_ne_true] at ev ⊢
    exact fb R σ H1 ρ1 Fs1 b ρ' Q st1 ev fun H2 Fs2 st2 s2 => q H2 Fs2 st2 (s1.trans s2)
  | true =>
    rw [if_pos rfl] at ev ⊢
    obtain ⟨e, rfl⟩ := ev
    cases e
    exact q H1 Fs1 st1 s1
theorem st_not {a : Expr} {pa : PE} {pos : Pos} (A : STt S a pa) : STt S (.UnaryOp .Not a pos) (.not pa) := by
  obtain ⟨ta, pea, fa⟩ := A
  refine ⟨_, fun X hX => L2.pt_not (pea X hX), fun R σ H ρ Fs b ρ' Q st ev q => ?_⟩
  obtain ⟨⟨w, ρ1⟩, e1, ev⟩ := ok_bnd (show (evalE S.T pa ρ).bnd _ = _ from ev)
  obtain ⟨c, e2, ev⟩ := ok_bnd ev
  obtain rfl := asBool_ok e2
  cases ev
  exact fa R σ H ρ Fs c ρ' _ st e1 fun H1 Fs1 st1 s1 => q H1 Fs1 st1 s1
theorem se_ifx {c a b : Expr} {pc pa pb : PE} {pos : Pos} (C : STt S c pc) (A : SE S a pa) (B : SE S b pb) : SE S (.IfExp c a b pos) (.ifx pc pa pb) := by
  obtain ⟨tc, pec, fc⟩ := C
  obtain ⟨ta, pea, fa⟩ := A
  obtain ⟨tb, peb, fb⟩ := B
  refine ⟨_, .not (fun X hX => L2.pe_ifExp (pec X hX) (pea X hX).1 (peb X hX).1) rfl, fun R σ H ρ Fs k x ρ' Q st ev q => ?_⟩
  obtain ⟨⟨w, ρ1⟩, e1, ev⟩ := ok_bnd (show (evalE S.T pc ρ).bnd _ = _ from ev)
  obtain ⟨t, e2, ev⟩ := ok_bnd ev
  obtain rfl := asBool_ok e2
  refine fc R σ H ρ Fs t ρ1 _ st e1 fun H1 Fs1 st1 s1 => ?_
  cases t with
  | true =>
    rw [if_pos rfl]
    exact fa R σ H1 ρ1 Fs1 k x ρ' Q st1 ev fun v H2 Fs2 Fr ns st2 o n d s2 => q v H2 Fs2 Fr ns st2 o n d (s1.trans s2)
  | false =>
    rw [if_neg Bool.false_ne_true]
    exact fb R σ H1 ρ1 Fs1 k x ρ' Q st1 ev fun v H2 Fs2 Fr ns st2 o n d s2 => q v H2 Fs2 Fr ns st2 o n d (s1.trans s2)

/-! ### built-in functions -/
def glN (nm : List (Str × NameKind)) (x : Str) : Bool := match nm.lookup x with
  | some .globalImplicit => true
  | _ => false
theorem gl_ok {X : Cx} (h : In S X) {x : Str} (v : glN S.nm x = true) : L2.Gl X x := by
  unfold glN at v
  show X.env.scope.names.lookup x = _
  rw [h.nm]
  split at v
  · assumption
  · cases v
theorem seq_ta {ts : List L2.TE} {r : List V → Hp → VK → Prop} {σ : L2.St} {H : Hp} {Q : VK} (h : seqT ts σ H fun vs H1 => r vs H1 Q) : L2.tCB r (taOf ts) σ H Q := by
  show taOf ts σ H _
  rw [taOf_eq]
  exact h
theorem se_bf {x : Str} {id : String} {o : Op} {r : List V → Hp → VK → Prop} {e : Expr} {es : List Expr} {ps : List PE} {p pos : Pos} (A : SGs S (e :: es) ps) (sem : OpN S.K o ps.length r) (rule : ∀ X, In S X → CallR X (.builtin id) r) (hg : glN S.nm x = true) (hm : S.mg x = none)
    (hv : bootBuiltins x = some (.builtin id)) (n : (e :: es).all noStar = true) (hn : x ≠ "__name__") (hd : (x == ("__debug__" : Str)) = false) : SE S (.Call (.Name x p) (e :: es) [] pos) (.op o ps) := by
  refine SE.opN A sem fun ts pes => ⟨L2.tCB r (taOf ts), .plain (fun X hX => ?_) rfl, fun σ H Q h => seq_ta h⟩
  have n' := n
  rw [List.all_cons, Bool.and_eq_true] at n'
  exact L2.pe_callB (rule X hX) (gl_ok hX hg) (by rw [hX.mg]; exact hm) hv (pa_of hX pes n) hn hd (star_cons n'.1 es X.env) (star_plain n'.2)
theorem se_bt {x : Str} {id : String} {o : Op} {r : List V → Hp → VK → Prop} {e : Expr} {es : List Expr} {ps : List PE} {p pos : Pos} (A : SGs S (e :: es) ps) (sem : OpN S.K o ps.length r) (rule : ∀ X, In S X → CallR X (.type id) r) (hg : glN S.nm x = true) (hm : S.mg x = none)
    (hv : bootBuiltins x = some (.type id)) (n : (e :: es).all noStar = true) (hn : x ≠ "__name__") (hd : (x == ("__debug__" : Str)) = false) : SE S (.Call (.Name x p) (e :: es) [] pos) (.op o ps) := by
  refine SE.opN A sem fun ts pes => ⟨L2.tCB r (taOf ts), .plain (fun X hX => ?_) rfl, fun σ H Q h => seq_ta h⟩
  have n' := n
  rw [List.all_cons, Bool.and_eq_true] at n'
  exact L2.pe_callTy (rule X hX) (gl_ok hX hg) (by rw [hX.mg]; exact hm) hv (pa_of hX pes n) hn hd (star_cons n'.1 es X.env) (star_plain n'.2)
/-- len of a list, a tuple, a dict -/
theorem call_len {X : Cx} : CallR X (.builtin "len") (rLen X.K) := by
  refine CallR.or L2.call_len_seq (CallR.or ?_ L2.call_len_dT)
  intro pins s σ H xs us Q I r ⟨p, kvs, e, hp, q⟩
  subst e
  rw [L2.Vals.ref1 r]
  exact L2.d_len I (.inl hp) fun t s' I' => ⟨.int (kvs.length : Nat), H, I', ⟨t, rfl⟩, q⟩
/-- isinstance(x, T) for a built-in class T -/
theorem se_isi {o : Op} {T : String} {x : Str} {a : Expr} {pa : PE} {p p2 pos : Pos} (A : SG S a pa) (sem : Op1 S.K o (fun x H Q => L2.rIsi S.K [x, .ty T] H Q)) (hg : glN S.nm "isinstance" = true) (hm : S.mg "isinstance" = none) (hg2 : glN S.nm x = true) (hm2 : S.mg x = none)
    (hv : bootBuiltins x = some (.type T)) (n : noStar a = true) (hn : x ≠ "__name__") (hd : (x == ("__debug__" : Str)) = false) : SE S (.Call (.Name "isinstance" p) [a, .Name x p2] [] pos) (.op o [pa]) := by
  refine SE.op1 A sem fun ta ha => .plain (fun X hX => ?_) rfl
  have ha' := (ha X hX).1
  have hb : L2.PE X (.Name x p2) (L2.tC (.ty T)) := L2.pe_bltn (gl_ok hX hg2) (by rw [hX.mg]; exact hm2) hv rfl hn hd
  have pa2 : L2.PA X [a, .Name x p2] (L2.tCons ta (L2.tCons (L2.tC (.ty T)) L2.tNil)) := L2.pa_cons ha' (L2.pa_cons hb L2.pa_nil) (star_cons n _ X.env)
  have := L2.pe_callB (p := p) (pos := pos) (L2.call_isi (X := X)) (gl_ok hX hg) (by rw [hX.mg]; exact hm) (show bootBuiltins "isinstance" = some (.builtin "isinstance") by decide +kernel) pa2 (by decide) (by decide) (star_cons n _ X.env) rfl
  rw [← hX.K]
  exact this
end
end PL
end

section
set_option Elab.async false
set_option linter.all false
set_option maxRecDepth 100000
set_option autoImplicit false
/-! SE4: calls of the text's own defs: own things are handed over by reference, and come back. -/
namespace PL
open PySem PySem.Spec PyProof.Rows
open L2 (V Hp HO upd upd_same upd_ne SqL SqT Rd Same Cx OpR UnR CallR R2 VK Inv EP RelV FnOk Sp Room)

section
variable {K : PySem.W.Frag}
/-- values with their kinds, each with what it owns -/
inductive OwnL (K : PySem.W.Frag) (G : Addr → Prop) (H : Hp) : List V → List SV → List (List Addr) → Prop
  | nil : OwnL K G H [] [] []
  | cons {v : V} {s : SV} {F : List Addr} {vs : List V} {ss : List SV} {Fs : List (List Addr)} : Own K G H s.1 v s.2 F → OwnL K G H vs ss Fs → OwnL K G H (v :: vs) (s :: ss) (F :: Fs)
theorem OwnL.slots {G : Addr → Prop} {H : Hp} {vs : List V} {ss : List SV} {Fs : List (List Addr)} (h : OwnL K G H vs ss Fs) : Slots K G H (vs.map some) (ss.map some) Fs := by
  induction h with
  | nil => exact .nil
  | cons o _ ih => exact .som o ih
theorem OwnL.of {G : Addr → Prop} {H : Hp} : ∀ {vs : List V} {ss : List SV} {Fs : List (List Addr)}, Slots K G H (vs.map some) (ss.map some) Fs → OwnL K G H vs ss Fs
  | [], [], _, .nil => .nil
  | v :: vs, s :: ss, _, .som o h => .cons o (OwnL.of h)
  | [], _ :: _, _, h => nomatch h
  | _ :: _, [], _, h => nomatch h
theorem OwnL.pres {G G' : Addr → Prop} {H H' : Hp} {vs : List V} {ss : List SV} {Fs : List (List Addr)} (h : OwnL K G H vs ss Fs) (p : Pres K G H G' H') (f : ∀ a ∈ Fs.flatten, H' a = H a) : OwnL K G' H' vs ss Fs := .of (h.slots.pres p f)
theorem OwnL.len {G : Addr → Prop} {H : Hp} {vs : List V} {ss : List SV} {Fs : List (List Addr)} (h : OwnL K G H vs ss Fs) : vs.length = ss.length ∧ Fs.length = ss.length := by
  induction h with
  | nil => exact ⟨rfl, rfl⟩
  | cons _ _ ih => simp [ih.1, ih.2]
/-- what a def's body, called with such values, hands back -/
def spOf (K : PySem.W.Frag) (g : List SV → R (SV × List SV)) : Sp := fun vs H Q _ => ∃ (R : Addr → Prop) (args : List SV) (Fs : List (List Addr)) (k : Kd) (x : D) (ws : List SV),
  StOk K R (vs.map some) (args.map some) Fs H ∧ g args = .ok ((k, x), ws) ∧
  ∀ v H' Fs' Fr, StOk K (GG R Fr) (vs.map some) (ws.map some) Fs' H' → Own K (GG (GG R Fr) Fs'.flatten) H' k v x Fr → Fr.Nodup → (∀ a ∈ Fr, ¬ R a) → Step K Fs.flatten H (Fs'.flatten ++ Fr) H' → Q v H'

theorem isD_eq {k : Kd} (h : isD k = true) : k = .d := by cases k <;> first | rfl | cases h
theorem StOk.setAt {R : Addr → Prop} {σ : L2.St} {ρ : Env} {Fs : List (List Addr)} {H : Hp} {i : Nat} {v : V} {k : Kd} {x : D} {F : List Addr} (h : StOk K (GG R F) σ ρ Fs H) (e : σ[i]? = some (some v))
    (o : Own K (GG (GG R F) Fs.flatten) H k v x F) (n : F.Nodup) (d : ∀ a ∈ F, ¬ R a) : StOk K R σ (ρ.set i (some (k, x))) (Fs.set i F) H := by
  have hi : i < ρ.length := by rw [← h.lenσ]; exact (List.getElem?_eq_some_iff.mp e).1
  have h2 := h.store hi o n d (v := v)
  have : σ.set i (some v) = σ := by
    obtain ⟨hl, he⟩ := List.getElem?_eq_some_iff.mp e
    rw [← he]
    exact List.set_getElem_self hl
  rwa [this] at h2

/-! ### the lists of references -/
theorem fill_cons_l {ρ : Env} {j : Nat} {rs : List (Sum Nat D)} {ss : List SV} (h : fill ρ (.inl j :: rs) = .ok ss) : ∃ s ss', ss = s :: ss' ∧ ρ[j]? = some (some s) ∧ fill ρ rs = .ok ss' := by
  obtain ⟨s, e1, h⟩ := ok_bnd (show (get ρ j).bnd _ = _ from h)
  obtain ⟨ss', e2, h⟩ := ok_bnd h
  cases h
  exact ⟨s, ss', rfl, get_some e1, e2⟩
theorem fill_cons_r {ρ : Env} {x : D} {rs : List (Sum Nat D)} {ss : List SV} (h : fill ρ (.inr x :: rs) = .ok ss) : ∃ ss', ss = (.d, x) :: ss' ∧ fill ρ rs = .ok ss' := by
  obtain ⟨ss', e2, h⟩ := ok_bnd (show (fill ρ rs).bnd _ = _ from h)
  cases h
  exact ⟨ss', rfl, e2⟩
/-- an own slot that is not referred to may be forgotten -/
theorem fill_drop {ρ : Env} {j : Nat} {s : SV} (hs : ρ[j]? = some (some s)) (hk : isD s.1 = false) : ∀ {rs : List (Sum Nat D)} {ss : List SV}, fill ρ rs = .ok ss → j ∉ ownRefs rs ss → fill (ρ.set j none) rs = .ok ss
  | [], _, h, _ => h
  | .inl i :: rs, ss, h, n => by
    obtain ⟨s', ss', rfl, e1, e2⟩ := fill_cons_l h
    have hne : i ≠ j := by
      rintro rfl
      rw [hs] at e1
      cases e1
      obtain ⟨k, x⟩ := s
      simp only [ownRefs, hk, Bool.false_eq_true, if_false] at n
      exact n List.mem_cons_self
    have n' : j ∉ ownRefs rs ss' := fun z => n (by
      obtain ⟨k, x⟩ := s'
      simp only [ownRefs]
      split
      · exact z
      · exact List.mem_cons_of_mem _ z)
    have ih := fill_drop hs hk e2 n'
    show (get (ρ.set j none) i).bnd _ = _
    have : get (ρ.set j none) i = .ok s' := by
      unfold get
      rw [List.getElem?_set_ne (Ne.symm hne), e1]
    rw [this]
    show (fill (ρ.set j none) rs).bnd _ = _
    rw [ih]
    rfl
  | .inr x :: rs, ss, h, n => by
    obtain ⟨ss', rfl, e2⟩ := fill_cons_r h
    have ih := fill_drop hs hk e2 n
    show (fill (ρ.set j none) rs).bnd _ = _
    rw [ih]
    rfl
theorem putBack_comm {j : Nat} {o : Option SV} : ∀ {ρ : Env} {rs : List (Sum Nat D)} {ss ws : List SV}, j ∉ ownRefs rs ss → putBack (ρ.set j o) rs ss ws = (putBack ρ rs ss ws).set j o
  | ρ, [], _, _, _ => rfl
  | ρ, .inl i :: rs, [], _, _ => rfl
  | ρ, .inl i :: rs, (k, x) :: ss, [], _ => rfl
  | ρ, .inl i :: rs, (k, x) :: ss, w :: ws, n => by
    simp only [ownRefs] at n
    simp only [putBack]
    split
    · rename_i h
      rw [if_pos h] at n
      exact putBack_comm n
    · rename_i h
      rw [if_neg h] at n
      have hne : i ≠ j := fun z => n (by rw [z]; exact List.mem_cons_self)
      rw [List.set_comm _ _ (Ne.symm hne)]
      exact putBack_comm fun z => n (List.mem_cons_of_mem _ z)
  | ρ, .inr i :: rs, [], _, _ => rfl
  | ρ, .inr i :: rs, _ :: ss, [], _ => rfl
  | ρ, .inr i :: rs, _ :: ss, _ :: ws, n => by
    simp only [putBack]
    exact putBack_comm (by simpa [ownRefs] using n)
theorem putBack_len : ∀ {ρ : Env} {rs : List (Sum Nat D)} {ss ws : List SV}, (putBack ρ rs ss ws).length = ρ.length
  | ρ, [], _, _ => rfl
  | ρ, .inl i :: rs, [], _ => rfl
  | ρ, .inl i :: rs, (k, x) :: ss, [] => rfl
  | ρ, .inl i :: rs, (k, x) :: ss, w :: ws => by
    simp only [putBack]
    split
    · exact putBack_len
    · rw [putBack_len, List.length_set]
  | ρ, .inr i :: rs, [], _ => rfl
  | ρ, .inr i :: rs, _ :: ss, [] => rfl
  | ρ, .inr i :: rs, _ :: ss, _ :: ws => by simp only [putBack]; exact putBack_len

theorem GG_app {R : Addr → Prop} {F F' : List Addr} {a : Addr} : GG R (F ++ F') a ↔ GG (GG R F) F' a := by
  unfold GG
  rw [List.mem_append]
  constructor
  · rintro (z | z | z)
    · exact .inl (.inl z)
    · exact .inl (.inr z)
    · exact .inr z
  · rintro ((z | z) | z)
    · exact .inl z
    · exact .inr (.inl z)
    · exact .inr (.inr z)
/-- the own arguments are taken out of the slots, and may be put back -/
theorem takeAll {σ : L2.St} {H : Hp} : ∀ {rs : List (Sum Nat D)} {vs : List V} {ss : List SV} {R : Addr → Prop} {ρ : Env} {Fs : List (List Addr)}, StOk K R σ ρ Fs H → ArgsR K (GG R Fs.flatten) H σ vs rs → fill ρ rs = .ok ss → nodupN (ownRefs rs ss) = true →
    ∃ (Fc : List (List Addr)) (ρ1 : Env) (Fs1 : List (List Addr)), OwnL K (GG (GG R Fc.flatten) Fs1.flatten) H vs ss Fc ∧ Fc.flatten.Nodup ∧ (∀ a ∈ Fc.flatten, ¬ R a) ∧ (∀ a ∈ Fc.flatten, a ∈ Fs.flatten) ∧ StOk K (GG R Fc.flatten) σ ρ1 Fs1 H ∧ (∀ a ∈ Fs1.flatten, a ∈ Fs.flatten) ∧
      ∀ (R' : Addr → Prop) (H' : Hp) (ws : List SV) (Fc' : List (List Addr)), StOk K (GG R' Fc'.flatten) σ ρ1 Fs1 H' → OwnL K (GG (GG R' Fc'.flatten) Fs1.flatten) H' vs ws Fc' → Fc'.flatten.Nodup → (∀ a ∈ Fc'.flatten, ¬ R' a) →
        ∃ Fs'', StOk K R' σ (putBack ρ rs ss ws) Fs'' H' ∧ ∀ a ∈ Fs''.flatten, a ∈ Fs1.flatten ∨ a ∈ Fc'.flatten
  | [], [], ss, R, ρ, Fs, st, _, e, _ => by
    cases e
    refine ⟨[], ρ, Fs, .nil, List.nodup_nil, fun _ z => (List.not_mem_nil z).elim, fun _ z => (List.not_mem_nil z).elim, st.lessR fun a z => GG_nil z, fun a z => z, fun R' H' ws Fc' st' o n d => ?_⟩
    cases o
    exact ⟨Fs, st'.lessR fun a z => .inl z, fun a z => .inl z⟩
  | .inl j :: rs, v :: vs, ss, R, ρ, Fs, st, ar, e, nd => by
    obtain ⟨s, ss', rfl, e1, e2⟩ := fill_cons_l e
    obtain ⟨k, x⟩ := s
    cases hk : isD k with
    | true =>
      have nd' : nodupN (ownRefs rs ss') = true := by simpa [ownRefs, hk] using nd
      obtain ⟨Fc, ρ1, Fs1, ol, n1, d1, d2, st1, d3, back⟩ := takeAll st ar.2 e2 nd'
      obtain rfl := isD_eq hk
      obtain ⟨v', F, a, b, c⟩ := st.slots.get e1
      have ev : σ[j]? = some (some v) := ar.1
      rw [a] at ev
      cases ev
      cases c with
      | d c =>
        refine ⟨[] :: Fc, ρ1, Fs1, .cons (.d (Dat.pres (Pres.less fun a z => ?_) _ _ c)) (by rw [List.flatten_cons, List.nil_append]; exact ol), by simpa using n1, by simpa using d1, by simpa using d2, by simpa using st1, d3, fun R' H' ws Fc' st' o n d => ?_⟩
        · rw [List.flatten_cons, List.nil_append] at z
          rcases z with (z | z) | z
          · exact .inl z
          · exact .inr (d2 a z)
          · exact .inr (d3 a z)
        · cases o with
          | @cons _ w F _ ws' Fc'' ow or =>
            simp only [putBack, hk, if_true]
            rw [List.flatten_cons] at st' or n d
            rw [List.nodup_append] at n
            obtain ⟨Fs'', r1, r2⟩ := back R' H' ws' Fc'' (st'.lessR fun a z => z.imp id fun z => List.mem_append_right _ z) (or.pres (Pres.less fun a z => z.imp (fun z => z.imp id fun z => List.mem_append_right _ z) id) fun _ _ => rfl) n.2.1 (fun a z => d a (List.mem_append_right _ z))
            exact ⟨Fs'', r1, fun a z => (r2 a z).imp id fun z => by rw [List.flatten_cons]; exact List.mem_append_right _ z⟩
    | false =>
      have nd' : j ∉ ownRefs rs ss' ∧ nodupN (ownRefs rs ss') = true := by
        have : nodupN (j :: ownRefs rs ss') = true := by simpa [ownRefs, hk] using nd
        simpa [nodupN] using this
      obtain ⟨v', F, a, b, o, n, dR, dF, st1⟩ := st.take e1
      have ev : σ[j]? = some (some v) := ar.1
      rw [a] at ev
      cases ev
      have le1 : ∀ c, GG (GG R F) (Fs.set j []).flatten c → GG R Fs.flatten c := fun c z => by
        rcases z with (z | z) | z
        · exact .inl z
        · exact .inr (flat_mem b c z)
        · exact .inr (flat_less c z)
      have ar' : ArgsR K (GG (GG R F) (Fs.set j []).flatten) H σ vs rs := by
        have : ∀ {vs : List V} {rs : List (Sum Nat D)}, ArgsR K (GG R Fs.flatten) H σ vs rs → ArgsR K (GG (GG R F) (Fs.set j []).flatten) H σ vs rs := by
          intro vs
          induction vs with
          | nil => intro rs h; cases rs <;> exact h
          | cons v vs ih =>
            intro rs h
            cases rs with
            | nil => exact h
            | cons r rs =>
              refine ⟨?_, ih h.2⟩
              cases r with
              | inl i => exact h.1
              | inr y => exact Dat.pres (Pres.less le1) _ _ h.1
        exact this ar.2
      obtain ⟨Fc, ρ1, Fs1, ol, n1, d1, d2, st2, d3, back⟩ := takeAll st1 ar' (fill_drop e1 hk e2 nd'.1) nd'.2
      refine ⟨F :: Fc, ρ1, Fs1, .cons (Own.pres (Pres.less fun c z => ?_) _ _ _ _ (fun _ _ => rfl) o) (ol.pres (Pres.less fun c z => ?_) fun _ _ => rfl), ?_, fun c z => ?_, fun c z => ?_, ?_, fun c z => flat_less c (d3 c z), fun R' H' ws Fc' st' o' n' d' => ?_⟩
      · rw [List.flatten_cons] at z
        rcases z with (z | z) | z
        · exact .inl (.inl z)
        · rcases List.mem_append.mp z with z | z
          · exact .inl (.inr z)
          · exact .inr (d2 c z)
        · exact .inr (d3 c z)
      · rw [List.flatten_cons] at z
        rcases z with z | z
        · exact .inl (GG_app.mp z)
        · exact .inr z
      · rw [List.flatten_cons, List.nodup_append]
        exact ⟨n, n1, fun x hx y hy z => d1 y hy (.inr (z ▸ hx))⟩
      · rw [List.flatten_cons] at z
        rcases List.mem_append.mp z with z | z
        · exact dR c z
        · exact fun y => d1 c z (.inl y)
      · rw [List.flatten_cons] at z
        rcases List.mem_append.mp z with z | z
        · exact flat_mem b c z
        · exact flat_less c (d2 c z)
      · rw [List.flatten_cons]
        exact st2.lessR fun c z => GG_app.mp z
      · cases o' with
        | @cons _ w F' _ ws' Fc'' ow or =>
          obtain ⟨wk, wx⟩ := w
          rw [List.flatten_cons] at st' n' d' ow or
          rw [List.nodup_append] at n'
          have st3 : StOk K (GG (GG R' F') Fc''.flatten) σ ρ1 Fs1 H' := st'.lessR fun c z => GG_app.mpr z
          obtain ⟨Fs'', r1, r2⟩ := back (GG R' F') H' ws' Fc'' st3 (or.pres (Pres.less fun c z => z.imp GG_app.mpr id) fun _ _ => rfl) n'.2.1 (fun c z y => y.elim (d' c (List.mem_append_right _ z)) fun y => n'.2.2 c y c z rfl)
          rw [putBack_comm nd'.1] at r1
          have r3 : StOk K R' σ (((putBack ρ rs ss' ws').set j none).set j (some (wk, wx))) (Fs''.set j F') H' := r1.setAt a (Own.pres (Pres.less fun c z => ?_) _ _ _ _ (fun _ _ => rfl) ow) n'.1 fun c z => d' c (List.mem_append_left _ z)
          · refine ⟨Fs''.set j F', ?_, fun c z => ?_⟩
            · simp only [putBack, hk, Bool.false_eq_true, if_false]
              rw [putBack_comm nd'.1]
              rwa [List.set_set] at r3
            · rw [List.flatten_cons]
              rcases flat_set c z with y | y
              · exact .inr (List.mem_append_left _ y)
              · exact (r2 c (flat_less c y)).imp id fun y => List.mem_append_right _ y
          · rcases z with (z | z) | z
            · exact .inl (.inl z)
            · exact .inl (.inr (List.mem_append_left _ z))
            · exact (r2 c z).elim .inr fun y => .inl (.inr (List.mem_append_right _ y))
  | .inr y :: rs, v :: vs, ss, R, ρ, Fs, st, ar, e, nd => by
    obtain ⟨ss', rfl, e2⟩ := fill_cons_r e
    have nd' : nodupN (ownRefs rs ss') = true := by simpa [ownRefs] using nd
    obtain ⟨Fc, ρ1, Fs1, ol, n1, d1, d2, st1, d3, back⟩ := takeAll st ar.2 e2 nd'
    refine ⟨[] :: Fc, ρ1, Fs1, .cons (.d (Dat.pres (Pres.less fun a z => ?_) _ _ ar.1)) (by rw [List.flatten_cons, List.nil_append]; exact ol), by simpa using n1, by simpa using d1, by simpa using d2, by simpa using st1, d3, fun R' H' ws Fc' st' o n d => ?_⟩
    · rw [List.flatten_cons, List.nil_append] at z
      rcases z with (z | z) | z
      · exact .inl z
      · exact .inr (d2 a z)
      · exact .inr (d3 a z)
    · cases o with
      | @cons _ w F _ ws' Fc'' ow or =>
        simp only [putBack]
        rw [List.flatten_cons] at st' or n d
        rw [List.nodup_append] at n
        obtain ⟨Fs'', r1, r2⟩ := back R' H' ws' Fc'' (st'.lessR fun a z => z.imp id fun z => List.mem_append_right _ z) (or.pres (Pres.less fun a z => z.imp (fun z => z.imp id fun z => List.mem_append_right _ z) id) fun _ _ => rfl) n.2.1 (fun a z => d a (List.mem_append_right _ z))
        exact ⟨Fs'', r1, fun a z => (r2 a z).imp id fun z => by rw [List.flatten_cons]; exact List.mem_append_right _ z⟩
  | [], _ :: _, _, _, _, _, _, h, _, _ => h.elim
  | _ :: _, [], _, _, _, _, _, h, _, _ => h.elim
end

/-- a def of the text, as it may be called -/
def FnFact (S : Stat) (x : Str) (f : Nat) : Prop := ∃ (a : Addr) (fd : FuncData) (pr : List Str) (k : Nat), S.mg x = some (.ref a) ∧ PySem.W.keepIn S.K (.ref a) = true ∧ L2.Binds S.K fd pr [] ∧
  FnOk S.prog S.w S.K S.mg S.base L2.CX0 k a fd pr (spOf S.K (S.T.f f)) ∧ Room k S.A
section
variable {S : Stat}
theorem call_sem {ps : List PE} {f : Nat} {R : Addr → Prop} {σ : L2.St} {H H1 : Hp} {ρ1 ρ' : Env} {Fs Fs1 : List (List Addr)} {rs : List (Sum Nat D)} {ss ws : List SV} {vs : List V} {k : Kd} {x : D} {Q : VK} (st1 : StOk S.K R σ ρ1 Fs1 H1) (a1 : ArgsR S.K (GG R Fs1.flatten) H1 σ vs rs)
    (s1 : Step S.K Fs.flatten H Fs1.flatten H1) (e2 : fill ρ1 rs = .ok ss) (nd : nodupN (ownRefs rs ss) = true) (ev : S.T.f f ss = .ok ((k, x), ws)) (ns : noS k = true) (hρ : putBack ρ1 rs ss ws = ρ')
    (q : ∀ v H' Fs' Fr, noS k = true → StOk S.K (GG R Fr) σ ρ' Fs' H' → Own S.K (GG (GG R Fr) Fs'.flatten) H' k v x Fr → Fr.Nodup → (∀ a ∈ Fr, ¬ R a) → Step S.K Fs.flatten H (Fs'.flatten ++ Fr) H' → Q v H') : spOf S.K (S.T.f f) vs H1 Q L2.E0 := by
  obtain ⟨Fc, ρr, Fsr, ol, n1, d1, d2, st2, d3, back⟩ := takeAll st1 a1 e2 nd
  refine ⟨GG R Fsr.flatten, ss, Fc, k, x, ws, ⟨ol.slots.pres (Pres.less fun a z => ?_) fun _ _ => rfl, n1, fun a ha z => ?_, fun a z => ?_, st1.len⟩, ev, fun v H' Fs' Fr st' o n d step => ?_⟩
  · rcases z with (z | z) | z
    · exact .inl (.inl z)
    · exact .inr z
    · exact .inl (.inr z)
  · exact z.elim (d1 a ha) fun z => st2.dis a z (.inr ha)
  · exact st2.dom a (z.imp .inl id)
  · have hn : ∀ a, a ∈ Fs'.flatten ∨ a ∈ Fr → a ∈ Fc.flatten ∨ H1 a = none := fun a z => step.new a (List.mem_append.mpr z)
    have rest : StOk S.K (GG (GG R Fr) Fs'.flatten) σ ρr Fsr H' := by
      refine st2.beside ⟨fun a ob e g => ⟨step.keep a ob e fun z => g (.inl (.inr z)), fun z => ?_⟩, step.tups⟩ (fun a ha => ?_) (fun a ha z => ?_) (fun a z => ?_) st'.len
      · have no : ∀ (z : a ∈ Fs'.flatten ∨ a ∈ Fr), False := fun z => (hn a z).elim (fun z => g (.inl (.inr z))) fun z => by rw [z] at e; cases e
        rcases z with ((z | z) | z) | z
        · exact g (.inl (.inl z))
        · exact no (.inr z)
        · exact no (.inl z)
        · exact g (.inr z)
      · obtain ⟨ob, e, _⟩ := st2.slots.foot a ha
        rw [e]
        exact step.keep a ob e fun z => st2.dis a ha (.inr z)
      · rcases z with (z | z) | z
        · exact st2.dis a ha (.inl z)
        · exact d a z (.inr ha)
        · exact st'.dis a z (.inl (.inr ha))
      · rcases z with (z | z) | z
        · exact st'.dom a (.inl (.inl (.inl z)))
        · exact st'.dom a (.inl (.inr z))
        · exact st'.dom a (.inr z)
    have hle : ∀ a, GG (GG (GG R Fr) Fs'.flatten) Fsr.flatten a → GG (GG (GG R Fsr.flatten) Fr) Fs'.flatten a := fun a z => by
      rcases z with ((z | z) | z) | z
      · exact .inl (.inl (.inl z))
      · exact .inl (.inr z)
      · exact .inr z
      · exact .inl (.inl (.inr z))
    obtain ⟨Fs'', r1, r2⟩ := back (GG R Fr) H' ws Fs' rest ((OwnL.of st'.slots).pres (Pres.less hle) fun _ _ => rfl) st'.nd fun a ha z => st'.dis a ha (z.imp .inl id)
    · rw [hρ] at r1
      refine q v H' Fs'' Fr ns r1 (Own.pres (Pres.less fun a z => ?_) _ _ _ _ (fun _ _ => rfl) o) n (fun a ha z => d a ha (.inl z)) (s1.trans (step.more d2 fun a z => ?_))
      · rcases z with (z | z) | z
        · exact .inl (.inl (.inl z))
        · exact .inl (.inr z)
        · exact (r2 a z).elim (fun z => .inl (.inl (.inr z))) .inr
      · rcases List.mem_append.mp z with z | z
        · exact (r2 a z).elim (fun z => .inr (d3 a z)) fun z => .inl (List.mem_append_left _ z)
        · exact .inl (List.mem_append_right _ z)
theorem FnFact.at {X : Cx} (hX : In S X) {x : Str} {f : Nat} (h : FnFact S x f) : ∃ (a : Addr) (fd : FuncData) (pr : List Str) (k : Nat), X.mg x = some (.ref a) ∧ PySem.W.keepIn X.K (.ref a) = true ∧ L2.Binds X.K fd pr [] ∧
    FnOk X.prog X.w X.K X.mg X.base L2.CX0 k a fd pr (spOf S.K (S.T.f f)) ∧ Room k X.A := by
  rw [hX.mg, hX.K, hX.prog, hX.w, hX.base, hX.A]
  exact h
theorem se_call {x : Str} {f : Nat} {e : Expr} {es : List Expr} {ps : List PE} {p pos : Pos} (F : FnFact S x f) (A : SGs S (e :: es) ps) (hg : glN S.nm x = true) (n : (e :: es).all noStar = true) (hd : (x == ("__debug__" : Str)) = false) : SE S (.Call (.Name x p) (e :: es) [] pos) (.call f ps) := by
  obtain ⟨ts, pes, fa⟩ := A
  refine ⟨L2.tCall (spOf S.K (S.T.f f)) [] L2.E0 (taOf ts), .plain (fun X hX => ?_) rfl, fun R σ H ρ Fs k y ρ' Q st ev q => ?_⟩
  · obtain ⟨a, fd, pr, k, h1, h2, h3, h4, h5⟩ := F.at hX
    have n' := n
    rw [List.all_cons, Bool.and_eq_true] at n'
    exact L2.pe_call h4 h5 (gl_ok hX hg) h1 h2 h3 .nil L2.pass0 (pa_of hX pes n) hd (star_cons n'.1 es X.env) (star_plain n'.2)
  · obtain ⟨⟨rs, ρ1⟩, e1, ev⟩ := ok_bnd (show (evalAs S.T ps ρ).bnd _ = _ from ev)
    obtain ⟨ss, e2, ev⟩ := ok_bnd ev
    by_cases nd : nodupN (ownRefs rs ss) = true
    · have ev : (if nodupN (ownRefs rs ss) = true then (S.T.f f ss).bnd (fun (r, ws) => if noS r.1 = true then PL.R.ok (r, putBack ρ1 rs ss ws) else .no) else .no) = PL.R.ok ((k, y), ρ') := ev
      rw [if_pos nd] at ev
      obtain ⟨⟨⟨k', y'⟩, ws⟩, e3, ev⟩ := ok_bnd ev
      by_cases ns : noS k' = true
      · have ev : (if noS k' = true then PL.R.ok ((k', y'), putBack ρ1 rs ss ws) else .no) = PL.R.ok ((k, y), ρ') := ev
        rw [if_pos ns] at ev
        cases ev
        show taOf ts σ H _
        rw [taOf_eq]
        refine fa R σ H ρ Fs rs ρ1 _ st e1 fun vs H1 Fs1 st1 a1 s1 => ?_
        rw [List.append_nil]
        exact call_sem (ps := ps) st1 a1 s1 e2 nd e3 ns rfl q
      · have ev : (if noS k' = true then PL.R.ok ((k', y'), putBack ρ1 rs ss ws) else .no) = PL.R.ok ((k, y), ρ') := ev
        rw [if_neg ns] at ev
        cases ev
    · have ev : (if nodupN (ownRefs rs ss) = true then (S.T.f f ss).bnd (fun (r, ws) => if noS r.1 = true then PL.R.ok (r, putBack ρ1 rs ss ws) else .no) else .no) = PL.R.ok ((k, y), ρ') := ev
      rw [if_neg nd] at ev
      cases ev
end
end PL
end

section
set_option Elab.async false
set_option linter.all false
set_option maxRecDepth 100000
set_option autoImplicit false
/-! SE5: targets, things walked over. -/
namespace PL
open PySem PySem.Spec PyProof.Rows
open L2 (V Hp HO upd upd_same upd_ne SqL SqT Rd Same Cx OpR UnR CallR R2 VK Inv EP RelV FnOk Sp Room)

section
variable {K : PySem.W.Frag}
theorem Pres.trans {G G1 G2 : Addr → Prop} {H H1 H2 : Hp} (p : Pres K G H G1 H1) (q : Pres K G1 H1 G2 H2) : Pres K G H G2 H2 :=
  ⟨fun a o e g => q.keep a o (p.keep a o e g).1 (p.keep a o e g).2, fun a xs e => q.tups a xs (p.tups a xs e)⟩
theorem Pres.refl {G : Addr → Prop} {H : Hp} : Pres K G H G H := ⟨fun _ _ e g => ⟨e, g⟩, fun _ _ e => e⟩
/-- an iterator gives these, one after another, as long as data stay data -/
structure Wk (K : PySem.W.Frag) (G0 : Addr → Prop) (H0 : Hp) (J : L2.It) (items : List D) : Prop where
  step : ∀ (G : Addr → Prop) (H : Hp), Pres K G0 H0 G H → HLen H → (∀ a, G a → ∃ o, H a = some o) → ∀ (i : Nat) (x : D), items[i]? = some x → J.go i H ∧ ∀ v H', J.yld i H v H' → Same H H' ∧ HLen H' ∧ Dat K G H' v x
  stop : ∀ (G : Addr → Prop) (H : Hp), Pres K G0 H0 G H → J.stop items.length H
theorem Wk.list {G : Addr → Prop} {H : Hp} {a : Addr} {vs : List V} {ds : List D} (g : ¬ G a) (e : H a = some (.lst vs)) (h : DatA K G H vs ds) : Wk K G H (L2.Itl K a) ds where
  step := fun G1 H1 p hl hd i x ex => by
    have h1 := DatA.pres p ds vs h
    obtain ⟨v, ev, dv⟩ := h1.get ex
    have e1 := (p.keep a _ e g).1
    refine ⟨⟨vs, v, .inl (.inl e1), ev⟩, fun u H' ⟨eH, y⟩ => ?_⟩
    subst eH
    have := y vs (.inl (.inl e1))
    rw [ev] at this
    cases this
    exact ⟨Same.refl _, hl, dv⟩
  stop := fun G1 H1 p => ⟨vs, .inl (.inl (p.keep a _ e g).1), by rw [h.len]; exact Nat.le_refl _⟩
theorem Wk.tup {G : Addr → Prop} {H : Hp} {a : Addr} {vs : List V} {ds : List D} (e : H a = some (.tup vs)) (h : DatA K G H vs ds) : Wk K G H (L2.Itt K a) ds where
  step := fun G1 H1 p hl hd i x ex => by
    have h1 := DatA.pres p ds vs h
    obtain ⟨v, ev, dv⟩ := h1.get ex
    have e1 := p.tups a _ e
    refine ⟨⟨vs, v, .inl (.inl e1), ev⟩, fun u H' ⟨eH, y⟩ => ?_⟩
    subst eH
    have := y vs (.inl (.inl e1))
    rw [ev] at this
    cases this
    exact ⟨Same.refl _, hl, dv⟩
  stop := fun G1 H1 p => ⟨vs, .inl (.inl (p.tups a _ e)), by rw [h.len]; exact Nat.le_refl _⟩
theorem Wk.range {G : Addr → Prop} {H : Hp} {lo hi : Int} : Wk K G H (L2.Itr lo (hi - lo).toNat) (rangeUp lo hi) where
  step := fun G1 H1 p hl hd i x ex => by
    unfold rangeUp at ex
    rw [List.getElem?_map] at ex
    obtain ⟨j, ej, ex⟩ := Option.map_eq_some_iff.mp ex
    obtain ⟨hj, ej⟩ := List.getElem?_eq_some_iff.mp ej
    rw [List.getElem_range] at ej
    subst ej
    rw [List.length_range] at hj
    subst ex
    exact ⟨hj, fun u H' ⟨eH, y⟩ => by subst eH y; exact ⟨Same.refl _, hl, .int _⟩⟩
  stop := fun G1 H1 p => by
    show (hi - lo).toNat ≤ _
    unfold rangeUp
    rw [List.length_map, List.length_range]
    exact Nat.le_refl _
theorem Wk.rangeC {G : Addr → Prop} {H : Hp} {lo c : Int} {n : Nat} : Wk K G H (L2.Itc lo c n) (rangeN n lo c) where
  step := fun G1 H1 p hl hd i x ex => by
    unfold rangeN at ex
    rw [List.getElem?_map] at ex
    obtain ⟨j, ej, ex⟩ := Option.map_eq_some_iff.mp ex
    obtain ⟨hj, ej⟩ := List.getElem?_eq_some_iff.mp ej
    rw [List.getElem_range] at ej
    subst ej
    rw [List.length_range] at hj
    subst ex
    exact ⟨hj, fun u H' ⟨eH, y⟩ => by subst eH y; exact ⟨Same.refl _, hl, .int _⟩⟩
  stop := fun G1 H1 p => by
    show n ≤ _
    unfold rangeN
    rw [List.length_map, List.length_range]
    exact Nat.le_refl _
theorem enumFrom_len : ∀ {n : Nat} {ds : List D}, (enumFrom n ds).length = ds.length
  | _, [] => rfl
  | n, d :: ds => by simp only [enumFrom, List.length_cons, enumFrom_len]
theorem enumFrom_get : ∀ {n : Nat} {ds : List D} {i : Nat} {x : D}, (enumFrom n ds)[i]? = some x → ∃ d, ds[i]? = some d ∧ x = .tuple [.int ((n + i : Nat) : Int), d]
  | _, [], i, x, h => by simp [enumFrom] at h
  | n, d :: ds, 0, x, h => by simp [enumFrom] at h; exact ⟨d, rfl, by simp [h]⟩
  | n, d :: ds, i + 1, x, h => by
    obtain ⟨e, a, b⟩ := enumFrom_get (n := n + 1) (ds := ds) (i := i) (by simpa [enumFrom] using h)
    exact ⟨e, by simpa using a, by rw [b]; congr 3; omega⟩
theorem zip2_len : ∀ {as bs : List D}, (zip2 as bs).length = min as.length bs.length
  | [], _ => by simp [zip2]
  | _ :: _, [] => by simp [zip2]
  | a :: as, b :: bs => by simp only [zip2, List.length_cons, zip2_len]; omega
theorem zip2_get : ∀ {as bs : List D} {i : Nat} {x : D}, (zip2 as bs)[i]? = some x → ∃ a b, as[i]? = some a ∧ bs[i]? = some b ∧ x = .tuple [a, b]
  | [], _, i, x, h => by simp [zip2] at h
  | _ :: _, [], i, x, h => by simp [zip2] at h
  | a :: as, b :: bs, 0, x, h => by simp [zip2] at h; exact ⟨a, b, rfl, rfl, h.symm⟩
  | a :: as, b :: bs, i + 1, x, h => by
    obtain ⟨e, f, q1, q2, q3⟩ := zip2_get (as := as) (bs := bs) (i := i) (by simpa [zip2] using h)
    exact ⟨e, f, by simpa using q1, by simpa using q2, q3⟩
/-- a pair that was made just now -/
theorem pair_new {G : Addr → Prop} {H : Hp} {T : Addr} {v w : V} {x y : D} (n : H T = none) (hl : HLen H) (hv : Dat K G H v x) (hw : Dat K G H w y) : Same H (upd H T (.tup [v, w])) ∧ HLen (upd H T (.tup [v, w])) ∧ Dat K G (upd H T (.tup [v, w])) (.ref T) (.tuple [x, y]) :=
  ⟨same_upd n, hl.tup (by show 2 ≤ sizeLine; decide), .tup upd_same (DatA.pres (pres_same (same_upd n)) _ _ (.cons hv (.cons hw .nil)))⟩
theorem Wk.enum {G : Addr → Prop} {H : Hp} {a : Addr} {vs : List V} {ds : List D} (g : ¬ G a) (e : H a = some (.lst vs)) (h : DatA K G H vs ds) : Wk K G H (L2.Ite K a) (enumFrom 0 ds) where
  step := fun G1 H1 p hl hd i x ex => by
    obtain ⟨d, ed, rfl⟩ := enumFrom_get ex
    have h1 := DatA.pres p ds vs h
    obtain ⟨v, ev, dv⟩ := h1.get ed
    have e1 := (p.keep a _ e g).1
    refine ⟨⟨vs, v, .inl (.inl e1), ev⟩, fun u H' ⟨T, w, eu, nT, eH, y⟩ => ?_⟩
    subst eu eH
    have := y vs (.inl (.inl e1))
    rw [ev] at this
    cases this
    rw [Nat.zero_add]
    exact pair_new nT hl (.int _) dv
  stop := fun G1 H1 p => ⟨vs, .inl (.inl (p.keep a _ e g).1), by rw [h.len, enumFrom_len]; exact Nat.le_refl _⟩
theorem Wk.zipL {G : Addr → Prop} {H : Hp} {a b : Addr} {vs ws : List V} {ds es : List D} (g : ¬ G a) (e : H a = some (.lst vs)) (h : DatA K G H vs ds) (g2 : ¬ G b) (e2 : H b = some (.lst ws)) (h2 : DatA K G H ws es) : Wk K G H (L2.Itz K a b) (zip2 ds es) where
  step := fun G1 H1 p hl hd i x ex => by
    obtain ⟨d, d2, ed, ed2, rfl⟩ := zip2_get ex
    obtain ⟨v, ev, dv⟩ := (DatA.pres p ds vs h).get ed
    obtain ⟨w, ew, dw⟩ := (DatA.pres p es ws h2).get ed2
    have e1 := (p.keep a _ e g).1
    have e3 := (p.keep b _ e2 g2).1
    refine ⟨⟨vs, ws, v, w, .inl (.inl e1), .inl (.inl e3), ev, ew⟩, fun u H' ⟨T, v', w', eu, nT, eH, y1, y2⟩ => ?_⟩
    subst eu eH
    have q1 := y1 vs (.inl (.inl e1))
    have q2 := y2 ws (.inl (.inl e3))
    rw [ev] at q1
    rw [ew] at q2
    cases q1
    cases q2
    exact pair_new nT hl dv dw
  stop := fun G1 H1 p => ⟨vs, ws, .inl (.inl (p.keep a _ e g).1), .inl (.inl (p.keep b _ e2 g2).1), by rw [h.len, h2.len, zip2_len]; omega⟩
theorem Wk.zipT {G : Addr → Prop} {H : Hp} {a b : Addr} {vs ws : List V} {ds es : List D} (e : H a = some (.tup vs)) (h : DatA K G H vs ds) (e2 : H b = some (.tup ws)) (h2 : DatA K G H ws es) : Wk K G H (RZ.ItzT K a b) (zip2 ds es) where
  step := fun G1 H1 p hl hd i x ex => by
    obtain ⟨d, d2, ed, ed2, rfl⟩ := zip2_get ex
    obtain ⟨v, ev, dv⟩ := (DatA.pres p ds vs h).get ed
    obtain ⟨w, ew, dw⟩ := (DatA.pres p es ws h2).get ed2
    have e1 := p.tups a _ e
    have e3 := p.tups b _ e2
    refine ⟨⟨vs, ws, v, w, .inl (.inl e1), .inl (.inl e3), ev, ew⟩, fun u H' ⟨T, v', w', eu, nT, eH, y1, y2⟩ => ?_⟩
    subst eu eH
    have q1 := y1 vs (.inl (.inl e1))
    have q2 := y2 ws (.inl (.inl e3))
    rw [ev] at q1
    rw [ew] at q2
    cases q1
    cases q2
    exact pair_new nT hl dv dw
  stop := fun G1 H1 p => ⟨vs, ws, .inl (.inl (p.tups a _ e)), .inl (.inl (p.tups b _ e2)), by rw [h.len, h2.len, zip2_len]; omega⟩
end
/-- something to walk over -/
def SI (S : Stat) (tg e : Expr) (p : PIt) : Prop := ∃ wi : L2.TI, (∀ X, In S X → L2.PI X tg e wi) ∧
  ∀ (R : Addr → Prop) (σ : L2.St) (H : Hp) (ρ : Env) (Fs : List (List Addr)) (items : List D) (ρ' : Env) (Q : L2.It → Hp → Prop), StOk S.K R σ ρ Fs H → evalI S.T p ρ = .ok (items, ρ') →
    (∀ J H' Fs', StOk S.K R σ ρ' Fs' H' → Step S.K Fs.flatten H Fs'.flatten H' → Wk S.K (GG R Fs'.flatten) H' J items → (isRange p = false → items.length ≤ sizeLine) → Q J H') → wi σ H Q
section
variable {S : Stat}
theorem PI.or {X : Cx} {tg e : Expr} {w1 w2 : L2.TI} (h1 : L2.PI X tg e w1) (h2 : L2.PI X tg e w2) : L2.PI X tg e (fun σ H R => w1 σ H R ∨ w2 σ H R) :=
  ⟨fun pins s σ H R I h => h.elim (h1.run pins s σ H R I) (h2.run pins s σ H R I)⟩
theorem asList_ok {x : D} {xs : List D} (h : asList x = .ok xs) : x = .list xs ∨ x = .tuple xs := by
  cases x <;> cases h
  · exact .inl rfl
  · exact .inr rfl
theorem pi_K {w : PySem.W.Frag → L2.TI} {tg e : Expr} (h : ∀ X, In S X → L2.PI X tg e (w X.K)) : ∀ X, In S X → L2.PI X tg e (w S.K) := fun X hX => hX.K ▸ h X hX
theorem si_e {tg e : Expr} {p : PE} (h : SD S e p) : SI S tg e (.e p) := by
  obtain ⟨t, pe, f⟩ := h
  refine ⟨_, pi_K (w := fun K σ H R => L2.iList K t σ H R ∨ L2.iTup K t σ H R) fun X hX => PI.or (L2.pi_list (pe X hX).1) (L2.pi_tup (pe X hX).1), fun R σ H ρ Fs items ρ' Q st ev q => ?_⟩
  obtain ⟨⟨⟨k, x⟩, ρ1⟩, e1, ev⟩ := ok_bnd (show (evalE S.T p ρ).bnd _ = _ from ev)
  obtain ⟨xs, e2, ev⟩ := ok_bnd ev
  cases ev
  rcases asList_ok e2 with e2 | e2
  · obtain rfl : x = .list items := e2
    refine .inl (f R σ H ρ Fs k _ ρ' _ st e1 fun v H1 Fs1 st1 d1 s1 => ?_)
    cases d1 with
    | lst g hs ha => exact ⟨_, rfl, ⟨_, .inl (.inl hs)⟩, q _ H1 Fs1 st1 s1 (.list g hs ha) fun _ => by rw [← ha.len]; exact st1.len _ _ (.inl hs)⟩
  · obtain rfl : x = .tuple items := e2
    refine .inr (f R σ H ρ Fs k _ ρ' _ st e1 fun v H1 Fs1 st1 d1 s1 => ?_)
    cases d1 with
    | tup hs ha => exact ⟨_, rfl, ⟨_, .inl (.inl hs)⟩, q _ H1 Fs1 st1 s1 (.tup hs ha) fun _ => by rw [← ha.len]; exact st1.len _ _ (.inr hs)⟩
theorem asL_ok {x : D} {xs : List D} (h : asL x = .ok xs) : x = .list xs := by
  cases x <;> cases h
  rfl
theorem same_ok {x y : D} {xs ys : List D} (h : same2 x y = .ok (xs, ys)) : (x = .list xs ∧ y = .list ys) ∨ (x = .tuple xs ∧ y = .tuple ys) := by
  cases x <;> cases y <;> cases h
  · exact .inl ⟨rfl, rfl⟩
  · exact .inr ⟨rfl, rfl⟩
theorem pa1 {X : Cx} {e : Expr} {t : L2.TE} (h : L2.PE X e t) (n : noStar e = true) : L2.PA X [e] (L2.tCons t L2.tNil) := L2.pa_cons h L2.pa_nil (star_cons n _ _)
theorem si_range1 {tg a : Expr} {pa : PE} {p pos : Pos} (A : SD S a pa) (n : noStar a = true) (hg : glN S.nm "range" = true) (hm : S.mg "range" = none) : SI S tg (.Call (.Name "range" p) [a] [] pos) (.range1 pa) := by
  obtain ⟨t, pe, f⟩ := A
  refine ⟨_, fun X hX => L2.pi_range1 (gl_ok hX hg) (by rw [hX.mg]; exact hm) (pa1 (pe X hX).1 n) (star_cons n _ _), fun R σ H ρ Fs items ρ' Q st ev q => ?_⟩
  obtain ⟨⟨⟨k, x⟩, ρ1⟩, e1, ev⟩ := ok_bnd (show (evalE S.T pa ρ).bnd _ = _ from ev)
  obtain ⟨m, e2, ev⟩ := ok_bnd ev
  obtain rfl := asInt_ok e2
  have ev : (if small m = true then PL.R.ok (rangeUp 0 m, ρ1) else .no) = PL.R.ok (items, ρ') := ev
  split at ev
  · rename_i hs
    cases ev
    obtain ⟨s1, s2⟩ := small_ok hs
    refine f R σ H ρ Fs k _ ρ' _ st e1 fun v H1 Fs1 st1 d1 s => ?_
    cases d1
    refine ⟨m, rfl, s1, s2, q _ H1 Fs1 st1 s ?_ fun z => nomatch z⟩
    have := Wk.range (K := S.K) (G := GG R Fs1.flatten) (H := H1) (lo := 0) (hi := m)
    rwa [Int.sub_zero] at this
  · cases ev
theorem si_range2 {tg a b : Expr} {pa pb : PE} {p pos : Pos} (A : SD S a pa) (B : SD S b pb) (n : noStar a = true) (n2 : noStar b = true) (hg : glN S.nm "range" = true) (hm : S.mg "range" = none) : SI S tg (.Call (.Name "range" p) [a, b] [] pos) (.range2 pa pb) := by
  obtain ⟨t, pe, f⟩ := A
  obtain ⟨t2, pe2, f2⟩ := B
  refine ⟨_, fun X hX => L2.pi_range2 (gl_ok hX hg) (by rw [hX.mg]; exact hm) (L2.pa_cons (pe X hX).1 (pa1 (pe2 X hX).1 n2) (star_cons n _ _)) (by rw [star_cons n, star_cons n2]; rfl) (star_cons n2 _ _), fun R σ H ρ Fs items ρ' Q st ev q => ?_⟩
  obtain ⟨⟨⟨k, x⟩, ρ1⟩, e1, ev⟩ := ok_bnd (show (evalE S.T pa ρ).bnd _ = _ from ev)
  obtain ⟨⟨⟨k2, x2⟩, ρ2⟩, e2, ev⟩ := ok_bnd ev
  obtain ⟨m, e3, ev⟩ := ok_bnd ev
  obtain ⟨m2, e4, ev⟩ := ok_bnd ev
  obtain rfl := asInt_ok e3
  obtain rfl := asInt_ok e4
  have ev : (if (small m && small m2) = true then PL.R.ok (rangeUp m m2, ρ2) else .no) = PL.R.ok (items, ρ') := ev
  split at ev
  · rename_i hs
    cases ev
    rw [Bool.and_eq_true] at hs
    obtain ⟨s1, s2⟩ := small_ok hs.1
    obtain ⟨s3, s4⟩ := small_ok hs.2
    refine f R σ H ρ Fs k _ ρ1 _ st e1 fun v H1 Fs1 st1 d1 st_1 => ?_
    refine f2 R σ H1 ρ1 Fs1 k2 _ ρ' _ st1 e2 fun v2 H2 Fs2 st2 d2 st_2 => ?_
    cases d1
    cases d2
    exact ⟨m, m2, rfl, ⟨s1, s2, s3, s4⟩, q _ H2 Fs2 st2 (st_1.trans st_2) Wk.range fun z => nomatch z⟩
  · cases ev
theorem si_range3 {tg a b c : Expr} {pa pb pc : PE} {p pos : Pos} (A : SD S a pa) (B : SD S b pb) (C : SD S c pc) (n : noStar a = true) (n2 : noStar b = true) (n3 : noStar c = true) (hg : glN S.nm "range" = true) (hm : S.mg "range" = none) : SI S tg (.Call (.Name "range" p) [a, b, c] [] pos) (.range3 pa pb pc) := by
  obtain ⟨t, pe, f⟩ := A
  obtain ⟨t2, pe2, f2⟩ := B
  obtain ⟨t3, pe3, f3⟩ := C
  refine ⟨_, fun X hX => L2.pi_range3 (gl_ok hX hg) (by rw [hX.mg]; exact hm) (L2.pa_cons (pe X hX).1 (L2.pa_cons (pe2 X hX).1 (pa1 (pe3 X hX).1 n3) (star_cons n2 _ _)) (star_cons n _ _)) (star_cons n _ _) (star_plain (es := [b, c]) (by simp [n2, n3])), fun R σ H ρ Fs items ρ' Q st ev q => ?_⟩
  obtain ⟨⟨⟨k, x⟩, ρ1⟩, e1, ev⟩ := ok_bnd (show (evalE S.T pa ρ).bnd _ = _ from ev)
  obtain ⟨⟨⟨k2, x2⟩, ρ2⟩, e2, ev⟩ := ok_bnd ev
  obtain ⟨⟨⟨k3, x3⟩, ρ3⟩, e2', ev⟩ := ok_bnd ev
  obtain ⟨m, e3, ev⟩ := ok_bnd ev
  obtain ⟨m2, e4, ev⟩ := ok_bnd ev
  obtain ⟨m3, e5, ev⟩ := ok_bnd ev
  obtain rfl := asInt_ok e3
  obtain rfl := asInt_ok e4
  obtain rfl := asInt_ok e5
  have ev : (if (small m && small m2 && decide (m3 = -1)) = true then PL.R.ok (rangeN (m - m2).toNat m m3, ρ3) else .no) = PL.R.ok (items, ρ') := ev
  split at ev
  · rename_i hs
    cases ev
    simp only [Bool.and_eq_true, decide_eq_true_eq] at hs
    obtain ⟨⟨h1, h2⟩, rfl⟩ := hs
    obtain ⟨s1, s2⟩ := small_ok h1
    obtain ⟨s3, s4⟩ := small_ok h2
    refine f R σ H ρ Fs k _ ρ1 _ st e1 fun v H1 Fs1 st1 d1 st_1 => ?_
    refine f2 R σ H1 ρ1 Fs1 k2 _ ρ2 _ st1 e2 fun v2 H2 Fs2 st2 d2 st_2 => ?_
    refine f3 R σ H2 ρ2 Fs2 k3 _ ρ' _ st2 e2' fun v3 H3 Fs3 st3 d3 st_3 => ?_
    cases d1
    cases d2
    cases d3
    exact ⟨m, m2, -1, _, rfl, L2.RgC.neg s1 s2 s3 s4, q _ H3 Fs3 st3 (st_1.trans (st_2.trans st_3)) Wk.rangeC fun z => nomatch z⟩
  · cases ev
theorem si_enum {e : Expr} {pe : PE} {p pos tpos : Pos} {elts : List Expr} {kk : Nat} (A : SD S e pe) (n : noStar e = true) (hg : glN S.nm "enumerate" = true) (hm : S.mg "enumerate" = none) : SI S (.Tuple elts kk tpos) (.Call (.Name "enumerate" p) [e] [] pos) (.enum pe) := by
  obtain ⟨t, pe', f⟩ := A
  refine ⟨_, pi_K (w := fun K => L2.iEnum K (L2.tCons t L2.tNil)) fun X hX => L2.pi_enum (gl_ok hX hg) (by rw [hX.mg]; exact hm) (pa1 (pe' X hX).1 n) (star_cons n _ _), fun R σ H ρ Fs items ρ' Q st ev q => ?_⟩
  obtain ⟨⟨⟨k, x⟩, ρ1⟩, e1, ev⟩ := ok_bnd (show (evalE S.T pe ρ).bnd _ = _ from ev)
  obtain ⟨xs, e2, ev⟩ := ok_bnd ev
  cases ev
  refine f R σ H ρ Fs k _ ρ' _ st e1 fun v H1 Fs1 st1 d1 s1 => ?_
  obtain rfl : x = .list xs := asL_ok e2
  cases d1 with
  | lst g hs ha => exact ⟨_, _, rfl, .inl (.inl hs), q _ H1 Fs1 st1 s1 (.enum g hs ha) fun _ => by rw [enumFrom_len, ← ha.len]; exact st1.len _ _ (.inl hs)⟩
theorem si_zip2 {a b : Expr} {pa pb : PE} {p pos tpos : Pos} {elts : List Expr} {kk : Nat} (A : SD S a pa) (B : SD S b pb) (n : noStar a = true) (n2 : noStar b = true) (hg : glN S.nm "zip" = true) (hm : S.mg "zip" = none) : SI S (.Tuple elts kk tpos) (.Call (.Name "zip" p) [a, b] [] pos) (.zip2 pa pb) := by
  obtain ⟨t, pe, f⟩ := A
  obtain ⟨t2, pe2, f2⟩ := B
  refine ⟨_, pi_K (w := fun K => RZ.iZipA K (L2.tCons t (L2.tCons t2 L2.tNil))) fun X hX => RZ.pi_zipA (gl_ok hX hg) (by rw [hX.mg]; exact hm) (L2.pa_cons (pe X hX).1 (pa1 (pe2 X hX).1 n2) (star_cons n _ _)) (star_cons n _ _) (star_plain (es := [b]) (by simp [n2])), fun R σ H ρ Fs items ρ' Q st ev q => ?_⟩
  obtain ⟨⟨⟨k, x⟩, ρ1⟩, e1, ev⟩ := ok_bnd (show (evalE S.T pa ρ).bnd _ = _ from ev)
  obtain ⟨⟨⟨k2, x2⟩, ρ2⟩, e2, ev⟩ := ok_bnd ev
  obtain ⟨⟨xs, ys⟩, e3, ev⟩ := ok_bnd ev
  cases ev
  refine f R σ H ρ Fs k _ ρ1 _ st e1 fun v H1 Fs1 st1 d1 st_1 => ?_
  refine f2 R σ H1 ρ1 Fs1 k2 _ ρ' _ st1 e2 fun v2 H2 Fs2 st2 d2 st_2 => ?_
  have d1 := Dat.pres (st_2.pres fun a z => .inl z) _ _ d1
  have e3 : same2 x x2 = .ok (xs, ys) := e3
  rcases same_ok e3 with ⟨rfl, rfl⟩ | ⟨rfl, rfl⟩
  · cases d1 with
    | lst g hs ha => cases d2 with
      | lst g2 hs2 ha2 => exact ⟨_, _, _, _, rfl, .inl ⟨.inl (.inl hs), .inl (.inl hs2), q _ H2 Fs2 st2 (st_1.trans st_2) (.zipL g hs ha g2 hs2 ha2) fun _ => by rw [zip2_len, ← ha.len]; exact Nat.le_trans (Nat.min_le_left _ _) (st2.len _ _ (.inl hs))⟩⟩
  · cases d1 with
    | tup hs ha => cases d2 with
      | tup hs2 ha2 => exact ⟨_, _, _, _, rfl, .inr ⟨.inl (.inl hs), .inl (.inl hs2), q _ H2 Fs2 st2 (st_1.trans st_2) (.zipT hs ha hs2 ha2) fun _ => by rw [zip2_len, ← ha.len]; exact Nat.le_trans (Nat.min_le_left _ _) (st2.len _ _ (.inr hs))⟩⟩
/-! ### targets -/
def tgN (S : Stat) (x : Str) : Bool := match S.nm.lookup x with
  | some .local => true
  | some .cell => S.cs x
  | _ => false
theorem tg_ok {X : Cx} (h : In S X) {x : Str} (v : tgN S x = true) : L2.Loc X.env.scope x ∧ (X.fn x = true ∨ X.env.scope.names.lookup x = some .local) := by
  unfold tgN at v
  unfold L2.Loc
  rw [h.nm]
  split at v
  · rename_i e; exact ⟨.inl e, .inr e⟩
  · rename_i e; exact ⟨.inr e, .inl (h.fn x v)⟩
  · cases v
def SGt (S : Stat) (tg : Expr) (p : PTg) : Prop := ∃ g : L2.TG, (∀ X, In S X → L2.PG X tg g) ∧
  ∀ (R : Addr → Prop) (σ : L2.St) (H : Hp) (ρ : Env) (Fs : List (List Addr)) (v : V) (x : D) (ρ' : Env) (Q : L2.St → Hp → Prop), StOk S.K R σ ρ Fs H → Dat S.K (GG R Fs.flatten) H v x → bindT p x ρ = .ok ρ' →
    (∀ σ' Fs', StOk S.K R σ' ρ' Fs' H → (∀ a ∈ Fs'.flatten, a ∈ Fs.flatten) → (∀ i, i ∉ tgT p → σ'[i]? = σ[i]?) → σ'.length = σ.length → Q σ' H) → g v σ H Q
def SGts (S : Stat) (tgs : List Expr) (ps : List PTg) : Prop := ∃ g : L2.TGs, (∀ X, In S X → L2.PGs X tgs g) ∧
  ∀ (R : Addr → Prop) (σ : L2.St) (H : Hp) (ρ : Env) (Fs : List (List Addr)) (vs : List V) (xs : List D) (ρ' : Env) (Q : L2.St → Hp → Prop), StOk S.K R σ ρ Fs H → DatA S.K (GG R Fs.flatten) H vs xs → bindTs ps xs ρ = .ok ρ' →
    (∀ σ' Fs', StOk S.K R σ' ρ' Fs' H → (∀ a ∈ Fs'.flatten, a ∈ Fs.flatten) → (∀ i, i ∉ tgTs ps → σ'[i]? = σ[i]?) → σ'.length = σ.length → Q σ' H) → g vs σ H Q
theorem setS_ok {ρ ρ' : Env} {i : Nat} {v : SV} (h : setS ρ i v = .ok ρ') : i < ρ.length ∧ ρ' = ρ.set i (some v) := by
  unfold setS at h
  split at h
  · cases h; exact ⟨by assumption, rfl⟩
  · cases h
theorem sg_var {x : Str} {i : Nat} {pos : Pos} (hN : S.N.Nodup) (hi : S.N[i]? = some x) (hx : tgN S x = true) : SGt S (.Name x pos) (.var i) := by
  refine ⟨L2.gName i, fun X hX => L2.pg_name (by rw [hX.N]; exact hN) (by rw [hX.N]; exact hi) (tg_ok hX hx).1 (tg_ok hX hx).2, fun R σ H ρ Fs v y ρ' Q st d ev q => ?_⟩
  obtain ⟨hl, rfl⟩ := setS_ok (show setS ρ i (.d, y) = .ok ρ' from ev)
  refine q _ (Fs.set i []) (StOk.store (st.lessR fun a z => GG_nil z) hl (.d (Dat.pres (Pres.less fun a z => z.imp GG_nil id) _ _ d)) List.nodup_nil fun _ z => (List.not_mem_nil z).elim) (fun a z => flat_less a z) (fun j hj => ?_) (List.length_set ..)
  rw [List.getElem?_set_ne]
  intro e
  exact hj (by rw [← e]; exact List.mem_singleton.mpr rfl)
theorem sgs_nil : SGts S [] [] := ⟨L2.gNil, fun X hX => L2.pgs_nil, fun R σ H ρ Fs vs xs ρ' Q st d ev q => by
  cases xs with
  | nil =>
    cases ev
    cases d
    exact ⟨rfl, q σ Fs st (fun _ z => z) (fun _ _ => rfl) rfl⟩
  | cons x xs => cases ev⟩
theorem assign_cons {e : Expr} (h : noStar e = true) (es : List Expr) (env : PySem.Env) : assignEach (e :: es) env = (false, assign e env) :: assignEach es env := by
  cases e <;> first | rfl | cases h
theorem assign_len {env : PySem.Env} : ∀ {es : List Expr}, es.all noStar = true → (assignEach es env).length = es.length ∧ (assignEach es env).findIdx? (·.1) = none
  | [], _ => ⟨rfl, rfl⟩
  | e :: es, h => by
    rw [List.all_cons, Bool.and_eq_true] at h
    obtain ⟨a, b⟩ := assign_len (env := env) h.2
    rw [assign_cons h.1]
    refine ⟨by simp [a], ?_⟩
    rw [List.findIdx?_cons]
    simp [b]
theorem sgs_cons {t : Expr} {ts : List Expr} {p : PTg} {ps : List PTg} (h : SGt S t p) (hs : SGts S ts ps) (n : noStar t = true) : SGts S (t :: ts) (p :: ps) := by
  obtain ⟨g, pg, f⟩ := h
  obtain ⟨gs, pgs, fs⟩ := hs
  refine ⟨L2.gCons g gs, fun X hX => L2.pgs_cons (pg X hX) (pgs X hX) (by rw [assign_cons n]; rfl), fun R σ H ρ Fs vs xs ρ' Q st d ev q => ?_⟩
  cases d with
  | nil => cases ev
  | @cons v vs x xs d1 d2 =>
    obtain ⟨ρ1, e1, ev⟩ := ok_bnd (show (bindT p x ρ).bnd _ = _ from ev)
    refine ⟨v, vs, rfl, f R σ H ρ Fs v x ρ1 _ st d1 e1 fun σ1 Fs1 st1 le1 n1 l1 => ?_⟩
    refine fs R σ1 H ρ1 Fs1 vs xs ρ' _ st1 (DatA.pres (Pres.less fun a z => z.imp id (le1 a)) _ _ d2) ev fun σ2 Fs2 st2 le2 n2 l2 => ?_
    refine q σ2 Fs2 st2 (fun a z => le1 a (le2 a z)) (fun i hi => ?_) (l2.trans l1)
    have hi : i ∉ tgT p ++ tgTs ps := hi
    rw [List.mem_append] at hi
    rw [n2 i fun z => hi (.inr z), n1 i fun z => hi (.inl z)]
theorem pg_K {w : PySem.W.Frag → L2.TG} {tg : Expr} (h : ∀ X, In S X → L2.PG X tg (w X.K)) : ∀ X, In S X → L2.PG X tg (w S.K) := fun X hX => hX.K ▸ h X hX
theorem sg_tup {ts : List Expr} {ps : List PTg} {k : Nat} {pos : Pos} (h : SGts S ts ps) (n : ts.all noStar = true) (hl : ts.length = ps.length) : SGt S (.Tuple ts k pos) (.tup ps) := by
  obtain ⟨g, pg, f⟩ := h
  refine ⟨L2.gTup S.K ts.length g, pg_K (w := fun K => L2.gTup K ts.length g) fun X hX => L2.pg_tup hX.calm (pg X hX) (assign_len n).1 (assign_len n).2, fun R σ H ρ Fs v x ρ' Q st d ev q => ?_⟩
  cases d with
  | @tup a vs ds hs ha =>
    have ev : bindTs ps ds ρ = .ok ρ' := ev
    refine ⟨a, vs, rfl, .inl (.inl hs), ?_, f R σ H ρ Fs vs ds ρ' Q st ha ev q⟩
    rw [ha.len, hl]
    have : ∀ {ps : List PTg} {ds : List D} {ρ ρ' : Env}, bindTs ps ds ρ = .ok ρ' → ds.length = ps.length := by
      intro ps
      induction ps with
      | nil => intro ds ρ ρ' h; cases ds with
        | nil => rfl
        | cons _ _ => cases h
      | cons p ps ih => intro ds ρ ρ' h; cases ds with
        | nil => cases h
        | cons d ds =>
          obtain ⟨ρ1, _, h⟩ := ok_bnd (show (bindT p d ρ).bnd _ = _ from h)
          simp only [List.length_cons, ih h]
    exact this ev
  | non => cases ev
  | bl b => cases ev
  | int b => cases ev
  | str b => cases ev
  | lst _ _ _ => cases ev
  | dK _ _ _ => cases ev
  | dT _ _ _ => cases ev
end
end PL
end

section
set_option Elab.async false
set_option linter.all false
set_option maxRecDepth 100000
set_option autoImplicit false
/-! SE6: list comprehensions. -/
namespace PL
open PySem PySem.Spec PyProof.Rows
open L2 (V Hp HO upd upd_same upd_ne SqL SqT Rd Same Cx OpR UnR CallR R2 VK Inv EP RelV FnOk Sp Room)

/-! ### slots forgotten, slots restored -/
section
variable {α : Type}
def wipeG (σ : List (Option α)) : List Nat → List (Option α)
  | [] => σ
  | v :: vs => (wipeG σ vs).set v none
def backG (σ0 σ1 : List (Option α)) : List Nat → List (Option α)
  | [] => σ1
  | v :: vs => backG σ0 (σ1.set v (σ0[v]?.getD none)) vs
theorem wipeG_len {σ : List (Option α)} : ∀ {vs : List Nat}, (wipeG σ vs).length = σ.length
  | [] => rfl
  | v :: vs => by simp only [wipeG, List.length_set, wipeG_len]
theorem backG_len {σ0 : List (Option α)} : ∀ {vs : List Nat} {σ1 : List (Option α)}, (backG σ0 σ1 vs).length = σ1.length
  | [], _ => rfl
  | v :: vs, σ1 => by simp only [backG, backG_len, List.length_set]
theorem wipeG_get {σ : List (Option α)} {i : Nat} (h : i < σ.length) : ∀ {vs : List Nat}, (wipeG σ vs)[i]? = if i ∈ vs then some none else σ[i]?
  | [] => by simp [wipeG]
  | v :: vs => by
    simp only [wipeG]
    by_cases e : v = i
    · subst e
      rw [List.getElem?_set_self (by rw [wipeG_len]; exact h), if_pos List.mem_cons_self]
    · rw [List.getElem?_set_ne e, wipeG_get h]
      by_cases m : i ∈ vs
      · rw [if_pos m, if_pos (List.mem_cons_of_mem _ m)]
      · rw [if_neg m, if_neg (by rw [List.mem_cons]; exact fun z => z.elim (fun z => e z.symm) m)]
theorem backG_get {σ0 : List (Option α)} {i : Nat} : ∀ {vs : List Nat} {σ1 : List (Option α)}, i < σ1.length → (backG σ0 σ1 vs)[i]? = if i ∈ vs then some (σ0[i]?.getD none) else σ1[i]?
  | [], σ1, h => by simp [backG]
  | v :: vs, σ1, h => by
    simp only [backG]
    rw [backG_get (by rw [List.length_set]; exact h)]
    by_cases m : i ∈ vs
    · rw [if_pos m, if_pos (List.mem_cons_of_mem _ m)]
    · rw [if_neg m]
      by_cases e : v = i
      · subst e
        rw [List.getElem?_set_self h, if_pos List.mem_cons_self]
      · rw [List.getElem?_set_ne e, if_neg (by rw [List.mem_cons]; exact fun z => z.elim (fun z => e z.symm) m)]
theorem wipeG_wipe {σ : List (Option α)} {vs ws : List Nat} (h : ∀ i ∈ vs, i ∈ ws) : wipeG (wipeG σ vs) ws = wipeG σ ws := by
  apply List.ext_getElem?
  intro i
  by_cases hi : i < σ.length
  · rw [wipeG_get (by rw [wipeG_len]; exact hi), wipeG_get hi, wipeG_get hi]
    by_cases m : i ∈ ws
    · rw [if_pos m, if_pos m]
    · rw [if_neg m, if_neg m, if_neg fun z => m (h i z)]
  · rw [List.getElem?_eq_none (by rw [wipeG_len, wipeG_len]; omega), List.getElem?_eq_none (by rw [wipeG_len]; omega)]
theorem backG_wipe {σ : List (Option α)} {vs : List Nat} : backG σ (wipeG σ vs) vs = σ := by
  apply List.ext_getElem?
  intro i
  by_cases hi : i < σ.length
  · rw [backG_get (by rw [wipeG_len]; exact hi), wipeG_get hi]
    by_cases m : i ∈ vs
    · rw [if_pos m]
      rw [List.getElem?_eq_getElem hi]
      rfl
    · rw [if_neg m, if_neg m]
  · rw [List.getElem?_eq_none (by rw [backG_len, wipeG_len]; omega), List.getElem?_eq_none (by omega)]
theorem backG_wipe2 {σ0 σ : List (Option α)} {vs : List Nat} : backG σ0 (wipeG σ vs) vs = backG σ0 σ vs := by
  apply List.ext_getElem?
  intro i
  by_cases hi : i < σ.length
  · rw [backG_get (by rw [wipeG_len]; exact hi), backG_get hi, wipeG_get hi]
    by_cases m : i ∈ vs
    · rw [if_pos m, if_pos m]
    · rw [if_neg m, if_neg m, if_neg m]
  · rw [List.getElem?_eq_none (by rw [backG_len, wipeG_len]; omega), List.getElem?_eq_none (by rw [backG_len]; omega)]
/-- what differs at the slots vs alone -/
theorem wipeG_eq {σ σ' : List (Option α)} {vs : List Nat} (l : σ'.length = σ.length) (h : ∀ i, i ∉ vs → σ'[i]? = σ[i]?) : wipeG σ' vs = wipeG σ vs := by
  apply List.ext_getElem?
  intro i
  by_cases hi : i < σ.length
  · rw [wipeG_get (by omega), wipeG_get hi]
    by_cases m : i ∈ vs
    · rw [if_pos m, if_pos m]
    · rw [if_neg m, if_neg m, h i m]
  · rw [List.getElem?_eq_none (by rw [wipeG_len]; omega), List.getElem?_eq_none (by rw [wipeG_len]; omega)]
end
theorem wipe_G {ρ : Env} : ∀ {vs : List Nat}, wipe ρ vs = wipeG ρ vs
  | [] => rfl
  | v :: vs => by simp only [wipe, wipeG, wipe_G]
theorem back_G {ρ0 : Env} : ∀ {vs : List Nat} {ρ1 : Env}, back ρ0 ρ1 vs = backG ρ0 ρ1 vs
  | [], _ => rfl
  | v :: vs, _ => by simp only [back, backG, back_G]
theorem wipeL_G {σ : L2.St} : ∀ {vs : List Nat}, L2.wipe σ vs = wipeG σ vs
  | [] => rfl
  | v :: vs => by simp only [L2.wipe, wipeG, wipeL_G]
def wipeF (Fs : List (List Addr)) : List Nat → List (List Addr)
  | [] => Fs
  | v :: vs => (wipeF Fs vs).set v []
theorem wipeF_sub {Fs : List (List Addr)} : ∀ {vs : List Nat}, ∀ a ∈ (wipeF Fs vs).flatten, a ∈ Fs.flatten
  | [], a, h => h
  | v :: vs, a, h => wipeF_sub a (flat_less a h)
section
variable {K : PySem.W.Frag} {R : Addr → Prop} {σ : L2.St} {H : Hp} {ρ : Env} {Fs : List (List Addr)}
theorem Slots.wipe1 {G : Addr → Prop} (h : Slots K G H σ ρ Fs) (i : Nat) : Slots K G H (σ.set i none) (ρ.set i none) (Fs.set i []) := by
  induction h generalizing i with
  | nil => exact .nil
  | non h ih =>
    cases i with
    | zero => exact .non h
    | succ i => exact .non (ih i)
  | som h1 h2 ih =>
    cases i with
    | zero => exact .non h2
    | succ i => exact .som h1 (ih i)
theorem StOk.wipe1 (h : StOk K R σ ρ Fs H) (i : Nat) : StOk K R (σ.set i none) (ρ.set i none) (Fs.set i []) H := by
  refine ⟨(h.slots.wipe1 i).pres (Pres.less fun a z => z.imp id (flat_less a)) fun _ _ => rfl, ?_, fun a ha => h.dis a (flat_less a ha), h.rdom, h.len⟩
  by_cases hi : i < Fs.length
  · exact (nd_split (List.getElem?_eq_getElem hi) h.nd).2.1
  · rw [List.set_eq_of_length_le (by omega)]
    exact h.nd
theorem StOk.wipeL (h : StOk K R σ ρ Fs H) : ∀ (vs : List Nat), StOk K R (L2.wipe σ vs) (wipe ρ vs) (wipeF Fs vs) H
  | [] => h
  | v :: vs => (StOk.wipeL h vs).wipe1 v
theorem wipeOk_get {ρ : Env} : ∀ {vs : List Nat}, wipeOk ρ vs = true → ∀ v ∈ vs, ρ[v]? = some none ∨ ∃ x, ρ[v]? = some (some (.d, x))
  | v :: vs, h, i, hi => by
    unfold wipeOk at h
    rw [Bool.and_eq_true] at h
    rcases List.mem_cons.mp hi with e | hi
    · subst e
      have h1 := h.1
      split at h1
      · exact .inl (by assumption)
      · rename_i e; exact .inr ⟨_, e⟩
      · cases h1
    · exact wipeOk_get h.2 i hi
/-- the slots as they were: data, or nothing -/
theorem StOk.restore {ρ0 : Env} (hd : ∀ (v : Nat) (x : D), ρ0[v]? = some (some (.d, x)) → ∃ w, σ[v]? = some (some w) ∧ ∀ G : Addr → Prop, (∀ a, G a → GG R Fs.flatten a) → Dat K G H w x) :
    ∀ {vs : List Nat} {σ1 : L2.St} {ρ1 : Env} {Fs1 : List (List Addr)}, StOk K R σ1 ρ1 Fs1 H → (∀ a ∈ Fs1.flatten, a ∈ Fs.flatten) → wipeOk ρ0 vs = true → ρ0.length = ρ1.length → ∃ Fs2, StOk K R (backG σ σ1 vs) (backG ρ0 ρ1 vs) Fs2 H ∧ ∀ a ∈ Fs2.flatten, a ∈ Fs1.flatten
  | [], _, _, Fs1, st, _, _, _ => ⟨Fs1, st, fun _ z => z⟩
  | v :: vs, σ1, ρ1, Fs1, st, le, ok, hl => by
    have ok2 : wipeOk ρ0 vs = true := by
      unfold wipeOk at ok
      rw [Bool.and_eq_true] at ok
      exact ok.2
    simp only [backG]
    rcases wipeOk_get ok v List.mem_cons_self with e | ⟨x, e⟩
    · rw [e]
      have st2 : StOk K R (σ1.set v (σ[v]?.getD none)) (ρ1.set v none) (Fs1.set v []) H := by
        have h1 := st.wipe1 v
        refine ⟨?_, h1.nd, h1.dis, h1.rdom, h1.len⟩
        have gen : ∀ {G : Addr → Prop} {σ : L2.St} {ρ : Env} {Fs : List (List Addr)} {i : Nat} {o : Option V}, Slots K G H (σ.set i none) (ρ.set i none) (Fs.set i []) → Slots K G H (σ.set i o) (ρ.set i none) (Fs.set i []) := by
          intro G σ ρ Fs i o h
          generalize e1 : σ.set i none = s1 at h
          generalize e2 : ρ.set i none = r1 at h
          generalize e3 : Fs.set i [] = f1 at h
          induction h generalizing σ ρ Fs i with
          | nil =>
            have : σ = [] := by cases σ with
              | nil => rfl
              | cons a b => cases i <;> cases e1
            subst this
            exact .nil
          | non h ih =>
            cases σ with
            | nil => cases e1
            | cons a σ => cases ρ with
              | nil => cases e2
              | cons b ρ => cases Fs with
                | nil => cases e3
                | cons c Fs =>
                  cases i with
                  | zero => cases e1; cases e2; cases e3; exact .non h
                  | succ i => cases e1; cases e2; cases e3; exact .non (ih rfl rfl rfl)
          | som h1 h2 ih =>
            cases σ with
            | nil => cases e1
            | cons a σ => cases ρ with
              | nil => cases e2
              | cons b ρ => cases Fs with
                | nil => cases e3
                | cons c Fs =>
                  cases i with
                  | zero => cases e2
                  | succ i => cases e1; cases e2; cases e3; exact .som h1 (ih rfl rfl rfl)
        exact gen h1.slots
      obtain ⟨Fs2, a, b⟩ := StOk.restore hd st2 (fun a z => le a (flat_less a z)) ok2 (by rw [List.length_set]; exact hl) (vs := vs)
      exact ⟨Fs2, a, fun a z => flat_less a (b a z)⟩
    · obtain ⟨w, ew, dw⟩ := hd v x e
      have hv : v < ρ1.length := by rw [← hl]; exact (List.getElem?_eq_some_iff.mp e).1
      rw [ew, e]
      have st2 : StOk K R (σ1.set v (some w)) (ρ1.set v (some (.d, x))) (Fs1.set v []) H :=
        StOk.store (st.lessR fun a z => GG_nil z) hv (.d (dw _ fun a z => z.imp GG_nil (le a))) List.nodup_nil fun _ z => (List.not_mem_nil z).elim
      obtain ⟨Fs2, a, b⟩ := StOk.restore hd st2 (fun a z => le a (flat_less a z)) ok2 (by rw [List.length_set]; exact hl) (vs := vs)
      exact ⟨Fs2, a, fun a z => flat_less a (b a z)⟩
end

/-! ### contexts of blocks -/
def relN (nm names : List (Str × NameKind)) : List (Str × NameKind) := names.map fun (n, k) => if (k == NameKind.free && nm.lookup n == some NameKind.cell) = true then (n, NameKind.cell) else (n, k)
def Stat.blk (S : Stat) (scope : Scope) : Stat := { S with nm := relN S.nm scope.names, cs := fun x => scope.names.lookup x == some NameKind.cell }
section
variable {S : Stat}
theorem In.blk {X : Cx} (h : In S X) {scope : Scope} (hk : scope.kind = .function) (s : Shared) (H : Hp) (C : Addr) (cl : List (Str × Addr)) (fp : List Addr) : In (S.blk scope) (X.blk s H scope (compEnvC scope cl C X.env) fp) where
  prog := h.prog
  w := h.w
  K := h.K
  mg := h.mg
  base := h.base
  A := h.A
  N := h.N
  nm := by
    show (scope.names.map _) = relN S.nm scope.names
    unfold relN
    refine List.map_congr_left fun y hy => ?_
    obtain ⟨n, k⟩ := y
    show (if (k == NameKind.free && X.env.scope.kind == .function && X.env.scope.names.lookup n == some .cell) = true then _ else _) = _
    rw [h.kind, h.nm]
    have : (ScopeKind.function == ScopeKind.function) = true := rfl
    rw [this, Bool.and_true]
  kind := hk
  calm := h.calm
  fn := fun x hx => hx
  xe := rfl
/-- the tests of a clause -/
def SF (S : Stat) (ifs : List Expr) (pc : PE) : Prop := ∃ tt : L2.TT, (∀ X, In S X → L2.PTs X ifs tt) ∧
  ∀ (R : Addr → Prop) (σ : L2.St) (H : Hp) (ρ : Env) (Fs : List (List Addr)) (b : Bool) (ρ' : Env) (Q : Bool → Hp → Prop), StOk S.K R σ ρ Fs H → evalE S.T pc ρ = .ok ((.d, .bool b), ρ') →
    (∀ H' Fs', StOk S.K R σ ρ' Fs' H' → Step S.K Fs.flatten H Fs'.flatten H' → Q b H') → tt σ H Q
theorem sf_nil : SF S [] (.bl true) := ⟨L2.tYes, fun X hX => L2.pts_nil, fun R σ H ρ Fs b ρ' Q st ev q => by cases ev; exact q H Fs st Step.refl⟩
theorem sf_one {c : Expr} {pc : PE} (h : STt S c pc) : SF S [c] pc := by
  obtain ⟨t, pt, f⟩ := h
  exact ⟨t, fun X hX => L2.pts_one (pt X hX), f⟩

/-! ### the loop -/
/-- one turn of the interpreter -/
def turnC (T : Tbl) (own : List Nat) (tg : PTg) (cond elt : PE) : D → Env → R (Option D × Env) := fun x r => do
  let r1 ← bindT tg x (wipe r own)
  let (c, r2) ← evalE T cond r1
  let b ← asBool c
  if b then do
    let (y, r3) ← evalE T elt r2
    .ok (some y.2, r3)
  else .ok (none, r2)
theorem compLoop_len {turn : D → Env → R (Option D × Env)} : ∀ {xs : List D} {ρ ρ' : Env} {ys : List D}, compLoop turn xs ρ = .ok (ys, ρ') → ys.length ≤ xs.length
  | [], _, _, _, h => by cases h; exact Nat.le_refl _
  | x :: xs, ρ, ρ', ys, h => by
    obtain ⟨⟨o, ρ1⟩, e1, h⟩ := ok_bnd (show (turn x ρ).bnd _ = _ from h)
    obtain ⟨⟨zs, ρ2⟩, e2, h⟩ := ok_bnd h
    cases h
    have := compLoop_len e2
    cases o <;> simp only [List.length_cons] <;> omega
theorem pres_upd {K : PySem.W.Frag} {G : Addr → Prop} {H : Hp} {D : Addr} {acc acc' : List V} (hD : H D = some (.lst acc)) (hG : G D) : Pres K G H G (upd H D (.lst acc')) :=
  ⟨fun a o e g => ⟨by rw [upd_ne fun z => g (by rw [z]; exact hG)]; exact e, g⟩, fun a xs e => by
    rw [upd_ne fun z => by rw [z, hD] at e; cases e]
    exact e⟩
theorem StOk.apart {K : PySem.W.Frag} {R : Addr → Prop} {σ : L2.St} {ρ : Env} {Fs : List (List Addr)} {H : Hp} {D : Addr} (st : StOk K (GG R [D]) σ ρ Fs H) : D ∉ Fs.flatten := fun z => st.dis D z (.inr (List.mem_singleton.mpr rfl))
/-- the list at D grows -/
theorem StOk.grow {K : PySem.W.Frag} {R : Addr → Prop} {σ : L2.St} {ρ : Env} {Fs : List (List Addr)} {H : Hp} {D : Addr} {acc acc' : List V} (st : StOk K (GG R [D]) σ ρ Fs H) (hD : H D = some (.lst acc)) (hl : acc'.length ≤ sizeLine) : StOk K (GG R [D]) σ ρ Fs (upd H D (.lst acc')) := by
  refine st.beside (pres_upd hD (.inl (.inr (List.mem_singleton.mpr rfl)))) (fun a ha => upd_ne fun z => st.apart (z ▸ ha)) st.dis (fun a z => ?_) (st.len.lst hl)
  by_cases e : a = D
  · exact ⟨_, by rw [e]; exact upd_same⟩
  · obtain ⟨o, h⟩ := st.rdom a z
    exact ⟨o, by rw [upd_ne e]; exact h⟩
theorem step_upd {K : PySem.W.Frag} {F : List Addr} {H : Hp} {D : Addr} {acc acc' : List V} (hD : H D = some (.lst acc)) (hF : D ∈ F) : Step K F H F (upd H D (.lst acc')) :=
  ⟨fun a o e n => by rw [upd_ne fun z => n (by rw [z]; exact hF)]; exact e, fun a xs e => by
    rw [upd_ne fun z => by rw [z, hD] at e; cases e]
    exact e, fun a z => .inl z⟩
/-- something owned beside -/
theorem Step.beside {K : PySem.W.Frag} {F F' E : List Addr} {H H' : Hp} (s : Step K F H F' H') : Step K (F ++ E) H (F' ++ E) H' :=
  ⟨fun a o e n => s.keep a o e fun z => n (List.mem_append_left _ z), s.tups, fun a z => (List.mem_append.mp z).elim (fun z => (s.new a z).imp (List.mem_append_left _) id) fun z => .inl (List.mem_append_right _ z)⟩
theorem clause_loop {ptg : PTg} {pc pelt : PE} {J : L2.It} {items : List D} {G0 : Addr → Prop} {H0 : Hp} {R : Addr → Prop} {L : Addr} {σ0 : L2.St} {vs : List Nat} {g : L2.TG} {tt : L2.TT} {te : L2.TE}
    (G : ∀ (R : Addr → Prop) (σ : L2.St) (H : Hp) (ρ : Env) (Fs : List (List Addr)) (v : V) (x : D) (ρ' : Env) (Q : L2.St → Hp → Prop), StOk S.K R σ ρ Fs H → Dat S.K (GG R Fs.flatten) H v x → bindT ptg x ρ = .ok ρ' →
      (∀ σ' Fs', StOk S.K R σ' ρ' Fs' H → (∀ a ∈ Fs'.flatten, a ∈ Fs.flatten) → (∀ i, i ∉ tgT ptg → σ'[i]? = σ[i]?) → σ'.length = σ.length → Q σ' H) → g v σ H Q)
    (F : ∀ (R : Addr → Prop) (σ : L2.St) (H : Hp) (ρ : Env) (Fs : List (List Addr)) (b : Bool) (ρ' : Env) (Q : Bool → Hp → Prop), StOk S.K R σ ρ Fs H → evalE S.T pc ρ = .ok ((.d, .bool b), ρ') →
      (∀ H' Fs', StOk S.K R σ ρ' Fs' H' → Step S.K Fs.flatten H Fs'.flatten H' → Q b H') → tt σ H Q)
    (E : ∀ (R : Addr → Prop) (σ : L2.St) (H : Hp) (ρ : Env) (Fs : List (List Addr)) (k : Kd) (x : D) (ρ' : Env) (Q : L2.VK), StOk S.K R σ ρ Fs H → evalE S.T pelt ρ = .ok ((k, x), ρ') →
      (∀ v H' Fs', StOk S.K R σ ρ' Fs' H' → Dat S.K (GG R Fs'.flatten) H' v x → Step S.K Fs.flatten H Fs'.flatten H' → Q v H') → te σ H Q)
    (hsub : ∀ i ∈ tgT ptg, i ∈ vs) (wk : Wk S.K G0 H0 J items)
    {Hs : Hp} {ρs ρe : Env} {Fss : List (List Addr)} {acc : List V} {done ys : List D} (p : Pres S.K G0 H0 (GG (GG R [L]) Fss.flatten) Hs) (st : StOk S.K (GG R [L]) (L2.wipe σ0 vs) (wipe ρs vs) Fss Hs) (hD : Hs L = some (.lst acc)) (da : DatA S.K (GG (GG R [L]) Fss.flatten) Hs acc done)
    (ev : compLoop (turnC S.T vs ptg pc pelt) items ρs = .ok (ys, ρe)) (hl : done.length + ys.length ≤ sizeLine) {Z : Hp → Prop}
    (hZ : ∀ H Fs' acc', StOk S.K (GG R [L]) (L2.wipe σ0 vs) (wipe ρe vs) Fs' H → H L = some (.lst acc') → DatA S.K (GG (GG R [L]) Fs'.flatten) H acc' (done ++ ys) → Step S.K (Fss.flatten ++ [L]) Hs (Fs'.flatten ++ [L]) H → Z H) :
    ∃ W : Nat → Nat → Hp → Prop, (∃ m, W 0 m Hs) ∧ ∀ i m H, W i m H →
      (J.stop i H ∧ Z H) ∨ (J.go i H ∧ ∃ Nx : Hp → Prop, (∀ H', Nx H' → ∃ m', m' < m ∧ W (i + 1) m' H') ∧ ∀ x H', J.yld i H x H' → g x (L2.wipe σ0 vs) H' fun σ2 H2 => L2.wipe σ2 vs = L2.wipe σ0 vs ∧ tt σ2 H2 fun b H3 =>
        if b = true then te σ2 H3 fun y H4 => ∃ acc, H4 L = some (.lst acc) ∧ acc.length < sizeLine ∧ Nx (upd H4 L (.lst (acc ++ [y]))) else Nx H3) := by
  -- a state ahead of turn i
  let P : Nat → Hp → Prop := fun i H => ∃ (ρi : Env) (Fi : List (List Addr)) (ai : List V) (di ri : List D), StOk S.K (GG R [L]) (L2.wipe σ0 vs) (wipe ρi vs) Fi H ∧ H L = some (.lst ai) ∧ DatA S.K (GG (GG R [L]) Fi.flatten) H ai di ∧
    Step S.K (Fss.flatten ++ [L]) Hs (Fi.flatten ++ [L]) H ∧ compLoop (turnC S.T vs ptg pc pelt) (items.drop i) ρi = .ok (ri, ρe) ∧ di ++ ri = done ++ ys ∧ i ≤ items.length
  refine ⟨fun i m H => m = items.length - i ∧ P i H, ⟨_, rfl, ρs, Fss, acc, done, ys, st, hD, da, Step.refl, ev, rfl, Nat.zero_le _⟩, ?_⟩
  rintro i m H ⟨rfl, ρi, Fi, ai, di, ri, sti, hDi, dai, stp, evi, eqi, hi⟩
  have pi : Pres S.K G0 H0 (GG (GG R [L]) Fi.flatten) H := by
    refine p.trans ⟨fun a o e gn => ⟨stp.keep a o e fun z => gn ?_, fun z => gn ?_⟩, stp.tups⟩
    · rcases List.mem_append.mp z with z | z
      · exact .inr z
      · exact .inl (.inr z)
    · rcases z with (z | z) | z
      · exact .inl (.inl z)
      · exact .inl (.inr z)
      · rcases stp.new a (List.mem_append_left _ z) with y | y
        · exact (List.mem_append.mp y).elim .inr fun y => .inl (.inr y)
        · rw [y] at e; cases e
  by_cases hlt : i < items.length
  · right
    obtain ⟨go, yld⟩ := wk.step _ H pi sti.len (fun a z => sti.dom a z) i items[i] (List.getElem?_eq_getElem hlt)
    refine ⟨go, P (i + 1), fun H' n => ⟨items.length - (i + 1), by omega, rfl, n⟩, fun v H' hy => ?_⟩
    obtain ⟨sm, hlen, dv⟩ := yld v H' hy
    rw [List.drop_eq_getElem_cons hlt] at evi
    obtain ⟨⟨o, ρ1⟩, e1, evi⟩ := ok_bnd (show (turnC S.T vs ptg pc pelt items[i] ρi).bnd _ = _ from evi)
    obtain ⟨⟨r2, ρ2⟩, e2, evi⟩ := ok_bnd evi
    cases evi
    obtain ⟨r1, b1, e1⟩ := ok_bnd (show (bindT ptg items[i] (wipe ρi vs)).bnd _ = _ from e1)
    obtain ⟨⟨c, r2'⟩, b2, e1⟩ := ok_bnd e1
    obtain ⟨b, b3, e1⟩ := ok_bnd e1
    obtain rfl := asBool_ok b3
    have st' : StOk S.K (GG R [L]) (L2.wipe σ0 vs) (wipe ρi vs) Fi H' := sti.beside (pres_same sm) (fun a ha => by
      obtain ⟨o, e, _⟩ := sti.slots.foot a ha
      rw [sm a o e, e]) sti.dis (fun a z => by
      obtain ⟨o, e⟩ := sti.rdom a z
      exact ⟨o, sm a o e⟩) hlen
    refine G (GG R [L]) _ H' _ Fi v items[i] r1 _ st' dv b1 fun σ2 F2 st2 le2 n2 l2 => ⟨?_, ?_⟩
    · rw [wipeL_G, wipeL_G]
      have := wipeG_eq (vs := vs) l2 fun i hi => n2 i fun z => hi (hsub i z)
      rw [this, wipeL_G, wipeG_wipe fun _ z => z]
    have hwσ : L2.wipe σ2 vs = L2.wipe σ0 vs := by
      rw [wipeL_G, wipeL_G]
      have := wipeG_eq (vs := vs) l2 fun i hi => n2 i fun z => hi (hsub i z)
      rw [this, wipeL_G, wipeG_wipe fun _ z => z]
    have stp' : Step S.K (Fss.flatten ++ [L]) Hs (F2.flatten ++ [L]) H' := (stp.trans (Step.same sm fun a z => .inl z)).sub fun a z => (List.mem_append.mp z).elim (fun z => List.mem_append_left _ (le2 a z)) fun z => List.mem_append_right _ z
    have hD' : H' L = some (.lst ai) := sm _ _ hDi
    have da' : DatA S.K (GG (GG R [L]) F2.flatten) H' ai di := DatA.pres ((pres_same sm).trans (Pres.less fun a z => z.imp id (le2 a))) _ _ dai
    refine F (GG R [L]) σ2 H' r1 F2 b r2' _ st2 b2 fun H3 F3 st3 s3 => ?_
    have hD3 : H3 L = some (.lst ai) := s3.keep L _ hD' st2.apart
    have da3 : DatA S.K (GG (GG R [L]) F3.flatten) H3 ai di := DatA.pres (s3.pres fun a z => .inl z) _ _ da'
    have stp3 := stp'.trans (s3.beside (E := [L]))
    cases b with
    | false =>
      rw [if_neg Bool.false_ne_true]
      have e1 : PL.R.ok ((none : Option _), r2') = PL.R.ok (o, ρ1) := e1
      cases e1
      refine ⟨ρ1, wipeF F3 vs, ai, di, r2, ?_, hD3, ?_, ?_, e2, eqi, hlt⟩
      · rw [← hwσ]; exact st3.wipeL vs
      · exact DatA.pres (Pres.less fun a z => z.imp id (wipeF_sub a)) _ _ da3
      · exact stp3.sub fun a z => (List.mem_append.mp z).elim (fun z => List.mem_append_left _ (wipeF_sub a z)) fun z => List.mem_append_right _ z
    | true =>
      rw [if_pos rfl]
      have e1 : (evalE S.T pelt r2').bnd (fun (y, r3) => PL.R.ok (some y.2, r3)) = PL.R.ok (o, ρ1) := e1
      obtain ⟨⟨⟨k, y⟩, r3⟩, b4, e1⟩ := ok_bnd e1
      cases e1
      refine E (GG R [L]) σ2 H3 r2' F3 k y ρ1 _ st3 b4 fun u H4 F4 st4 d4 s4 => ?_
      have hD4 : H4 L = some (.lst ai) := s4.keep L _ hD3 st3.apart
      have da4 : DatA S.K (GG (GG R [L]) F4.flatten) H4 ai di := DatA.pres (s4.pres fun a z => .inl z) _ _ da3
      have stp4 := stp3.trans (s4.beside (E := [L]))
      have hlen : di.length + (y :: r2).length = done.length + ys.length := by rw [← List.length_append, ← List.length_append, eqi]
      rw [List.length_cons] at hlen
      have hai : ai.length < sizeLine := by rw [da4.len]; omega
      refine ⟨ai, hD4, hai, ρ1, wipeF F4 vs, ai ++ [u], di ++ [y], r2, ?_, upd_same, ?_, ?_, e2, by rw [List.append_assoc]; exact eqi, hlt⟩
      · have := (st4.grow hD4 (acc' := ai ++ [u]) (by rw [List.length_append]; exact hai)).wipeL vs
        rwa [hwσ] at this
      · refine DatA.pres ?_ _ _ (da4.app (.one d4))
        exact (pres_upd hD4 (.inl (.inr (List.mem_singleton.mpr rfl)))).trans (Pres.less fun a z => z.imp id (wipeF_sub a))
      · refine (stp4.trans (step_upd hD4 (List.mem_append_right _ (List.mem_singleton.mpr rfl)))).sub fun a z => (List.mem_append.mp z).elim (fun z => List.mem_append_left _ (wipeF_sub a z)) fun z => List.mem_append_right _ z
  · left
    obtain rfl : i = items.length := by omega
    rw [List.drop_length] at evi
    cases evi
    rw [List.append_nil] at eqi
    refine ⟨wk.stop _ H pi, hZ H Fi ai sti hDi (by rw [← eqi]; exact dai) stp⟩
end
end PL
end

section
set_option Elab.async false
set_option linter.all false
set_option maxRecDepth 100000
set_option autoImplicit false
/-! SE7: list comprehensions as expressions, and stored to a name. -/
namespace PL
open PySem PySem.Spec PyProof.Rows
open L2 (V Hp HO upd upd_same upd_ne SqL SqT Rd Same Cx OpR UnR CallR R2 VK Inv EP RelV FnOk Sp Room)

def SemE (S : Stat) (t : L2.TE) (p : PE) : Prop :=
  ∀ (R : Addr → Prop) (σ : L2.St) (H : Hp) (ρ : Env) (Fs : List (List Addr)) (k : Kd) (x : D) (ρ' : Env) (Q : L2.VK), StOk S.K R σ ρ Fs H → evalE S.T p ρ = .ok ((k, x), ρ') →
    (∀ v H' Fs' Fr, noS k = true → StOk S.K (GG R Fr) σ ρ' Fs' H' → Own S.K (GG (GG R Fr) Fs'.flatten) H' k v x Fr → Fr.Nodup → (∀ a ∈ Fr, ¬ R a) → Step S.K Fs.flatten H (Fs'.flatten ++ Fr) H' → Q v H') → t σ H Q
/-- .. that may be stored to a name's slot at once -/
def SEC (S : Stat) (e : Expr) (p : PE) : Prop := ∃ t : L2.TE, PEc S e t ∧ SemE S t p ∧
  ∀ X, In S X → ∀ (i : Nat) (y : Str) (py spos : Pos), X.N[i]? = some y → X.env.scope.names.lookup y = some .local → swapsWith e (some (.Name y py)) spos.line X.env = pure true → L2.PS X (.Assign [.Name y py] e spos) (L2.tAsg t (L2.gName i))
section
variable {S : Stat}
theorem SEC.se {e : Expr} {p : PE} (h : SEC S e p) : SE S e p := by
  obtain ⟨t, a, b, _⟩ := h
  exact ⟨t, a, b⟩
def noSet : Expr → Bool
  | .Set _ _ _ => false
  | _ => true
theorem noSet_ok {e : Expr} (h : noSet e = true) (env : PySem.Env) (x : Value) : foldedSetIterable e env x = pure x := by
  cases e <;> first | rfl | cases h

/-- the state behind a comprehension -/
theorem comp_end {R : Addr → Prop} {σ : L2.St} {H1 H : Hp} {ρ1 ρ2 : Env} {Fs1 F : List (List Addr)} {vs : List Nat} {L : Addr} {acc : List V} {ys : List D} {Q : VK} {F0 : List Addr} {H0 : Hp}
    (st1 : StOk S.K R σ ρ1 Fs1 H1) (hw : wipeOk ρ1 vs = true) (hl : ρ1.length = ρ2.length) (hL : H1 L = none) (st : StOk S.K (GG R [L]) (L2.wipe σ vs) (wipe ρ2 vs) F H) (hD : H L = some (.lst acc)) (da : DatA S.K (GG (GG R [L]) F.flatten) H acc ys) (s0 : Step S.K F0 H0 Fs1.flatten H1) (s1 : Step S.K Fs1.flatten H1 (F.flatten ++ [L]) H)
    (q : ∀ v H' Fs' Fr, noS (.l .d) = true → StOk S.K (GG R Fr) σ (back ρ1 ρ2 vs) Fs' H' → Own S.K (GG (GG R Fr) Fs'.flatten) H' (.l .d) v (.list ys) Fr → Fr.Nodup → (∀ a ∈ Fr, ¬ R a) → Step S.K F0 H0 (Fs'.flatten ++ Fr) H' → Q v H') : Q (.ref L) H := by
  have pr : Pres S.K (GG R Fs1.flatten) H1 (GG (GG R [L]) F.flatten) H := (s1.sub (F2 := F.flatten) fun a z => List.mem_append_left _ z).pres fun a z => z.imp id fun z => by
    rw [List.mem_singleton.mp z]; exact hL
  obtain ⟨F2, st2, le2⟩ := StOk.restore (σ := σ) (ρ0 := ρ1) (Fs := F) (fun v x e => by
    obtain ⟨w, Fw, e1, e2, o⟩ := st1.slots.get e
    cases o with
    | d o => exact ⟨w, e1, fun G hG => Dat.pres (pr.trans (Pres.less hG)) _ _ o⟩) st (fun _ z => z) hw (by rw [wipe_G, wipeG_len]; exact hl)
  rw [wipeL_G, backG_wipe, wipe_G, backG_wipe2, ← back_G] at st2
  refine q (.ref L) H F2 [L] rfl st2 (.l hD (OwnA.of (DatA.pres (Pres.less fun a z => z.imp id (le2 a)) _ _ da))) (by simp) (fun a z hR => ?_) ((s0.trans s1).sub fun a z => ?_)
  · rw [List.mem_singleton.mp z] at hR
    obtain ⟨o, e⟩ := st1.rdom L hR
    rw [hL] at e; cases e
  · exact (List.mem_append.mp z).elim (fun z => List.mem_append_left _ (le2 a z)) fun z => List.mem_append_right _ z
/-- the state ahead of its first turn -/
theorem comp_begin {R : Addr → Prop} {σ : L2.St} {H1 : Hp} {ρ1 : Env} {Fs1 : List (List Addr)} {vs : List Nat} {L : Addr} (st1 : StOk S.K R σ ρ1 Fs1 H1) (hL : H1 L = none) :
    StOk S.K (GG R [L]) (L2.wipe σ vs) (wipe (wipe ρ1 vs) vs) (wipeF Fs1 vs) (upd H1 L (.lst [])) ∧ Pres S.K (GG R Fs1.flatten) H1 (GG (GG R [L]) (wipeF Fs1 vs).flatten) (upd H1 L (.lst [])) ∧ Step S.K Fs1.flatten H1 ((wipeF Fs1 vs).flatten ++ [L]) (upd H1 L (.lst [])) := by
  have nL : ∀ a ∈ Fs1.flatten, a ≠ L := fun a ha e => by
    obtain ⟨o, h, _⟩ := st1.slots.foot a ha
    rw [e, hL] at h; cases h
  have pr0 : Pres S.K (GG R Fs1.flatten) H1 (GG (GG R [L]) Fs1.flatten) (upd H1 L (.lst [])) := ⟨fun a o e g => ⟨same_upd hL a o e, fun z => by
    rcases z with (z | z) | z
    · exact g (.inl z)
    · rw [List.mem_singleton.mp z, hL] at e; cases e
    · exact g (.inr z)⟩, fun a xs e => same_upd hL _ _ e⟩
  have st2 : StOk S.K (GG R [L]) σ ρ1 Fs1 (upd H1 L (.lst [])) := st1.beside pr0 (fun a ha => upd_ne (nL a ha)) (fun a ha z => z.elim (st1.dis a ha) fun z => nL a ha (List.mem_singleton.mp z)) (fun a z => by
    by_cases e : a = L
    · exact ⟨_, by rw [e]; exact upd_same⟩
    · rcases z with z | z
      · obtain ⟨o, h⟩ := st1.rdom a z
        exact ⟨o, by rw [upd_ne e]; exact h⟩
      · exact absurd (List.mem_singleton.mp z) e) (st1.len.lst (Nat.zero_le _))
  have e1 : wipe (wipe ρ1 vs) vs = wipe ρ1 vs := by rw [wipe_G, wipe_G, wipeG_wipe fun _ z => z]
  rw [e1]
  refine ⟨st2.wipeL vs, pr0.trans (Pres.less fun a z => z.imp id (wipeF_sub a)), fun a o e n => same_upd hL a o e, fun a xs e => same_upd hL _ _ e, fun a z => ?_⟩
  rcases List.mem_append.mp z with z | z
  · exact .inl (wipeF_sub a z)
  · rw [List.mem_singleton.mp z]; exact .inr hL
theorem bindT_len : ∀ {p : PTg} {x : D} {ρ ρ' : Env}, bindT p x ρ = .ok ρ' → ρ'.length = ρ.length := by
  intro p
  refine PTg.rec (motive_1 := fun p => ∀ {x : D} {ρ ρ' : Env}, bindT p x ρ = .ok ρ' → ρ'.length = ρ.length) (motive_2 := fun ps => ∀ {xs : List D} {ρ ρ' : Env}, bindTs ps xs ρ = .ok ρ' → ρ'.length = ρ.length) ?_ ?_ ?_ ?_ p
  · intro i x ρ ρ' h
    obtain ⟨_, rfl⟩ := setS_ok (show setS ρ i (.d, x) = .ok ρ' from h)
    exact List.length_set ..
  · intro ts ih x ρ ρ' h
    cases x <;> first | cases h | exact ih h
  · intro xs ρ ρ' h
    cases xs <;> cases h
    rfl
  · intro t ts i1 i2 xs ρ ρ' h
    cases xs with
    | nil => cases h
    | cons x xs =>
      obtain ⟨ρ1, e1, h⟩ := ok_bnd (show (bindT t x ρ).bnd _ = _ from h)
      rw [i2 h, i1 e1]
/-- the interpreter keeps the number of slots, wherever what it reads stands for something -/
theorem StOk.lens {K : PySem.W.Frag} {R R' : Addr → Prop} {σ : L2.St} {ρ ρ' : Env} {Fs Fs' : List (List Addr)} {H H' : Hp} (a : StOk K R σ ρ Fs H) (b : StOk K R' σ ρ' Fs' H') : ρ'.length = ρ.length := by
  rw [← b.lenσ, ← a.lenσ]
theorem comp_sem {pelt pc : PE} {ptg : PTg} {pit : PIt} {vs : List Nat} {wi : L2.TI} {g : L2.TG} {tt : L2.TT} {te : L2.TE}
    (I : ∀ (R : Addr → Prop) (σ : L2.St) (H : Hp) (ρ : Env) (Fs : List (List Addr)) (items : List D) (ρ' : Env) (Q : L2.It → Hp → Prop), StOk S.K R σ ρ Fs H → evalI S.T pit ρ = .ok (items, ρ') →
      (∀ J H' Fs', StOk S.K R σ ρ' Fs' H' → Step S.K Fs.flatten H Fs'.flatten H' → Wk S.K (GG R Fs'.flatten) H' J items → (isRange pit = false → items.length ≤ sizeLine) → Q J H') → wi σ H Q)
    (G : ∀ (R : Addr → Prop) (σ : L2.St) (H : Hp) (ρ : Env) (Fs : List (List Addr)) (v : V) (x : D) (ρ' : Env) (Q : L2.St → Hp → Prop), StOk S.K R σ ρ Fs H → Dat S.K (GG R Fs.flatten) H v x → bindT ptg x ρ = .ok ρ' →
      (∀ σ' Fs', StOk S.K R σ' ρ' Fs' H → (∀ a ∈ Fs'.flatten, a ∈ Fs.flatten) → (∀ i, i ∉ tgT ptg → σ'[i]? = σ[i]?) → σ'.length = σ.length → Q σ' H) → g v σ H Q)
    (F : ∀ (R : Addr → Prop) (σ : L2.St) (H : Hp) (ρ : Env) (Fs : List (List Addr)) (b : Bool) (ρ' : Env) (Q : Bool → Hp → Prop), StOk S.K R σ ρ Fs H → evalE S.T pc ρ = .ok ((.d, .bool b), ρ') →
      (∀ H' Fs', StOk S.K R σ ρ' Fs' H' → Step S.K Fs.flatten H Fs'.flatten H' → Q b H') → tt σ H Q)
    (E : ∀ (R : Addr → Prop) (σ : L2.St) (H : Hp) (ρ : Env) (Fs : List (List Addr)) (k : Kd) (x : D) (ρ' : Env) (Q : L2.VK), StOk S.K R σ ρ Fs H → evalE S.T pelt ρ = .ok ((k, x), ρ') →
      (∀ v H' Fs', StOk S.K R σ ρ' Fs' H' → Dat S.K (GG R Fs'.flatten) H' v x → Step S.K Fs.flatten H Fs'.flatten H' → Q v H') → te σ H Q)
    (hsub : ∀ i ∈ tgT ptg, i ∈ vs) : SemE S (L2.tLc wi g tt te vs) (.comp pelt vs ptg pit pc) := by
  intro R σ H ρ Fs k x ρ' Q st ev q
  obtain ⟨⟨items, ρ1⟩, e1, ev⟩ := ok_bnd (show (evalI S.T pit ρ).bnd _ = _ from ev)
  have ev : (if (fits pit items && wipeOk ρ1 vs) = true then (compLoop (turnC S.T vs ptg pc pelt) items (wipe ρ1 vs)).bnd (fun (ys, ρ2) => PL.R.ok ((Kd.l .d, PyData.list ys), back ρ1 ρ2 vs)) else .no) = PL.R.ok ((k, x), ρ') := ev
  split at ev
  · rename_i hf
    rw [Bool.and_eq_true] at hf
    obtain ⟨⟨ys, ρ2⟩, e2, ev⟩ := ok_bnd ev
    cases ev
    refine I R σ H ρ Fs items ρ1 _ st e1 fun J H1 Fs1 st1 s1 wk hlen => fun L hL => ?_
    have hl : items.length ≤ sizeLine := by
      have h1 := hf.1
      unfold fits at h1
      rw [Bool.or_eq_true] at h1
      rcases h1 with h1 | h1
      · exact hlen (by simpa using h1)
      · exact of_decide_eq_true h1
    obtain ⟨st0, pr0, stp0⟩ := comp_begin (vs := vs) st1 hL
    refine clause_loop G F E hsub wk (Z := fun H => Q (.ref L) H) pr0 st0 upd_same .nil e2 (by rw [List.length_nil, Nat.zero_add]; exact Nat.le_trans (compLoop_len e2) hl) fun H2 F2 acc st2 hD da stp => ?_
    have hρ : ρ1.length = ρ2.length := by
      have h1 := st2.lenσ
      have h2 := st0.lenσ
      rw [wipe_G, wipeG_len] at h1 h2
      rw [wipe_G, wipeG_len] at h2
      omega
    exact comp_end st1 hf.2 hρ hL st2 hD (by simpa using da) s1 (stp0.trans stp) q
  · cases ev
theorem sec_comp {elt tg iter : Expr} {ifs : List Expr} {scope : Scope} {own : List (Str × Nat)} {pelt pc : PE} {ptg : PTg} {pit : PIt} {vs : List Nat} {pos : Pos} (hN : S.N.Nodup) (ok : ∀ X, In S X → L2.BlkOk X.N X.env.scope scope own) (hv : own.map (·.2) = vs)
    (I : SI S tg iter pit) (G : SGt (S.blk scope) tg ptg) (F : SF (S.blk scope) ifs pc) (E : SD (S.blk scope) elt pelt) (hs : noSet iter = true) (hk : scope.kind = .function) (hsub : ∀ i ∈ tgT ptg, i ∈ vs) : SEC S (.ListComp elt [⟨tg, iter, ifs, 0⟩] scope pos) (.comp pelt vs ptg pit pc) := by
  obtain ⟨wi, pi, fi⟩ := I
  obtain ⟨g, pg, fg⟩ := G
  obtain ⟨tt, pt, ft⟩ := F
  obtain ⟨te, pe, fe⟩ := E
  subst hv
  refine ⟨_, .plain (fun X hX => ?_) rfl, comp_sem (S := S) fi fg ft fe hsub, fun X hX i y py spos hy hl hsw => ?_⟩
  · exact L2.pe_lc hX.calm (by rw [hX.N]; exact hN) (pi X hX) (ok X hX) (fun s H C cl fp => pg _ (hX.blk hk s H C cl fp)) (fun s H C cl fp => pt _ (hX.blk hk s H C cl fp)) (fun s H C cl fp => (pe _ (hX.blk hk s H C cl fp)).1) (noSet_ok hs _)
  · exact L2.ps_setLc hX.calm (by rw [hX.N]; exact hN) hy hl hsw (pi X hX) (ok X hX) (fun s H C cl fp => pg _ (hX.blk hk s H C cl fp)) (fun s H C cl fp => pt _ (hX.blk hk s H C cl fp)) (fun s H C cl fp => (pe _ (hX.blk hk s H C cl fp)).1) (noSet_ok hs _)

/-! ### two clauses -/
def turnC2 (T : Tbl) (own : List Nat) (tg : PTg) (cond : PE) (it1 : PIt) (tg1 : PTg) (cond1 elt : PE) : D → Env → R (List D × Env) := fun x r => do
  let r1 ← bindT tg x (wipe r own)
  let (c, r2) ← evalE T cond r1
  let b ← asBool c
  if b then do
    let (inner, r3) ← evalI T it1 r2
    compLoop (turnC T (tgT tg1) tg1 cond1 elt) inner r3
  else .ok ([], r2)
theorem comp2_sem {pelt pc pc1 : PE} {ptg ptg1 : PTg} {pit pit1 : PIt} {vs : List Nat} {wi wi1 : L2.TI} {g g1 : L2.TG} {tt tt1 : L2.TT} {te : L2.TE}
    (I : ∀ (R : Addr → Prop) (σ : L2.St) (H : Hp) (ρ : Env) (Fs : List (List Addr)) (items : List D) (ρ' : Env) (Q : L2.It → Hp → Prop), StOk S.K R σ ρ Fs H → evalI S.T pit ρ = .ok (items, ρ') →
      (∀ J H' Fs', StOk S.K R σ ρ' Fs' H' → Step S.K Fs.flatten H Fs'.flatten H' → Wk S.K (GG R Fs'.flatten) H' J items → (isRange pit = false → items.length ≤ sizeLine) → Q J H') → wi σ H Q)
    (G : ∀ (R : Addr → Prop) (σ : L2.St) (H : Hp) (ρ : Env) (Fs : List (List Addr)) (v : V) (x : D) (ρ' : Env) (Q : L2.St → Hp → Prop), StOk S.K R σ ρ Fs H → Dat S.K (GG R Fs.flatten) H v x → bindT ptg x ρ = .ok ρ' →
      (∀ σ' Fs', StOk S.K R σ' ρ' Fs' H → (∀ a ∈ Fs'.flatten, a ∈ Fs.flatten) → (∀ i, i ∉ tgT ptg → σ'[i]? = σ[i]?) → σ'.length = σ.length → Q σ' H) → g v σ H Q)
    (F : ∀ (R : Addr → Prop) (σ : L2.St) (H : Hp) (ρ : Env) (Fs : List (List Addr)) (b : Bool) (ρ' : Env) (Q : Bool → Hp → Prop), StOk S.K R σ ρ Fs H → evalE S.T pc ρ = .ok ((.d, .bool b), ρ') →
      (∀ H' Fs', StOk S.K R σ ρ' Fs' H' → Step S.K Fs.flatten H Fs'.flatten H' → Q b H') → tt σ H Q)
    (I1 : ∀ (R : Addr → Prop) (σ : L2.St) (H : Hp) (ρ : Env) (Fs : List (List Addr)) (items : List D) (ρ' : Env) (Q : L2.It → Hp → Prop), StOk S.K R σ ρ Fs H → evalI S.T pit1 ρ = .ok (items, ρ') →
      (∀ J H' Fs', StOk S.K R σ ρ' Fs' H' → Step S.K Fs.flatten H Fs'.flatten H' → Wk S.K (GG R Fs'.flatten) H' J items → (isRange pit1 = false → items.length ≤ sizeLine) → Q J H') → wi1 σ H Q)
    (G1 : ∀ (R : Addr → Prop) (σ : L2.St) (H : Hp) (ρ : Env) (Fs : List (List Addr)) (v : V) (x : D) (ρ' : Env) (Q : L2.St → Hp → Prop), StOk S.K R σ ρ Fs H → Dat S.K (GG R Fs.flatten) H v x → bindT ptg1 x ρ = .ok ρ' →
      (∀ σ' Fs', StOk S.K R σ' ρ' Fs' H → (∀ a ∈ Fs'.flatten, a ∈ Fs.flatten) → (∀ i, i ∉ tgT ptg1 → σ'[i]? = σ[i]?) → σ'.length = σ.length → Q σ' H) → g1 v σ H Q)
    (F1 : ∀ (R : Addr → Prop) (σ : L2.St) (H : Hp) (ρ : Env) (Fs : List (List Addr)) (b : Bool) (ρ' : Env) (Q : Bool → Hp → Prop), StOk S.K R σ ρ Fs H → evalE S.T pc1 ρ = .ok ((.d, .bool b), ρ') →
      (∀ H' Fs', StOk S.K R σ ρ' Fs' H' → Step S.K Fs.flatten H Fs'.flatten H' → Q b H') → tt1 σ H Q)
    (E : ∀ (R : Addr → Prop) (σ : L2.St) (H : Hp) (ρ : Env) (Fs : List (List Addr)) (k : Kd) (x : D) (ρ' : Env) (Q : L2.VK), StOk S.K R σ ρ Fs H → evalE S.T pelt ρ = .ok ((k, x), ρ') →
      (∀ v H' Fs', StOk S.K R σ ρ' Fs' H' → Dat S.K (GG R Fs'.flatten) H' v x → Step S.K Fs.flatten H Fs'.flatten H' → Q v H') → te σ H Q)
    (hsub : ∀ i ∈ tgT ptg, i ∈ vs) (hsub1 : ∀ i ∈ tgT ptg1, i ∈ vs) : SemE S (L2.tLc2 wi g tt wi1 g1 tt1 te vs (tgT ptg1)) (.comp2 pelt vs ptg pit pc ptg1 pit1 pc1) := by
  intro R σ H ρ Fs k x ρ' Q st ev q
  obtain ⟨⟨items, ρ1⟩, e1, ev⟩ := ok_bnd (show (evalI S.T pit ρ).bnd _ = _ from ev)
  have ev : (if wipeOk ρ1 vs = true then (compLoop2 (turnC2 S.T vs ptg pc pit1 ptg1 pc1 pelt) items (wipe ρ1 vs)).bnd (fun (ys, ρ2) => if ys.length ≤ sizeCap then PL.R.ok ((Kd.l .d, PyData.list ys), back ρ1 ρ2 vs) else .no) else .no) = PL.R.ok ((k, x), ρ') := ev
  split at ev
  · rename_i hw
    obtain ⟨⟨ys, ρ2⟩, e2, ev⟩ := ok_bnd ev
    have ev : (if ys.length ≤ sizeCap then PL.R.ok ((Kd.l .d, PyData.list ys), back ρ1 ρ2 vs) else .no) = PL.R.ok ((k, x), ρ') := ev
    split at ev
    · rename_i hcap
      cases ev
      refine I R σ H ρ Fs items ρ1 _ st e1 fun J H1 Fs1 st1 s1 wk hlen => fun L hL => ?_
      obtain ⟨st0, pr0, stp0⟩ := comp_begin (vs := vs) st1 hL
      let P : Nat → Hp → Prop := fun i H => ∃ (ρi : Env) (Fi : List (List Addr)) (ai : List V) (di ri : List D), StOk S.K (GG R [L]) (L2.wipe σ vs) (wipe ρi vs) Fi H ∧ H L = some (.lst ai) ∧ DatA S.K (GG (GG R [L]) Fi.flatten) H ai di ∧
        Step S.K Fs1.flatten H1 (Fi.flatten ++ [L]) H ∧ compLoop2 (turnC2 S.T vs ptg pc pit1 ptg1 pc1 pelt) (items.drop i) ρi = .ok (ri, ρ2) ∧ di ++ ri = ys ∧ i ≤ items.length
      refine ⟨fun i m H => m = items.length - i ∧ P i H, ⟨_, rfl, _, _, [], [], ys, st0, upd_same, .nil, stp0, e2, rfl, Nat.zero_le _⟩, ?_⟩
      rintro i m H2 ⟨rfl, ρi, Fi, ai, di, ri, sti, hDi, dai, stp, evi, eqi, hi⟩
      have pi : Pres S.K (GG R Fs1.flatten) H1 (GG (GG R [L]) Fi.flatten) H2 := (stp.sub (F2 := Fi.flatten) fun a z => List.mem_append_left _ z).pres fun a z => z.imp id fun z => by
        rw [List.mem_singleton.mp z]; exact hL
      by_cases hlt : i < items.length
      · right
        obtain ⟨go, yld⟩ := wk.step _ H2 pi sti.len (fun a z => sti.dom a z) i items[i] (List.getElem?_eq_getElem hlt)
        refine ⟨go, P (i + 1), fun H' n => ⟨items.length - (i + 1), by omega, rfl, n⟩, fun v H' hy => ?_⟩
        obtain ⟨sm, hlen', dv⟩ := yld v H' hy
        rw [List.drop_eq_getElem_cons hlt] at evi
        obtain ⟨⟨o, ρn⟩, e1', evi⟩ := ok_bnd (show (turnC2 S.T vs ptg pc pit1 ptg1 pc1 pelt items[i] ρi).bnd _ = _ from evi)
        obtain ⟨⟨r2, ρe⟩, e2', evi⟩ := ok_bnd evi
        cases evi
        obtain ⟨r1, b1, e1'⟩ := ok_bnd (show (bindT ptg items[i] (wipe ρi vs)).bnd _ = _ from e1')
        obtain ⟨⟨c, r2'⟩, b2, e1'⟩ := ok_bnd e1'
        obtain ⟨b, b3, e1'⟩ := ok_bnd e1'
        obtain rfl := asBool_ok b3
        have st' : StOk S.K (GG R [L]) (L2.wipe σ vs) (wipe ρi vs) Fi H' := sti.beside (pres_same sm) (fun a ha => by
          obtain ⟨o, e, _⟩ := sti.slots.foot a ha
          rw [sm a o e, e]) sti.dis (fun a z => by
          obtain ⟨o, e⟩ := sti.rdom a z
          exact ⟨o, sm a o e⟩) hlen'
        refine G (GG R [L]) _ H' _ Fi v items[i] r1 _ st' dv b1 fun σ2 F2 st2 le2 n2 l2 => ?_
        have hwσ : L2.wipe σ2 vs = L2.wipe σ vs := by
          rw [wipeL_G, wipeL_G]
          have := wipeG_eq (vs := vs) l2 fun i hi => n2 i fun z => hi (hsub i z)
          rw [this, wipeL_G, wipeG_wipe fun _ z => z]
        have hwσ2 : L2.wipe σ2 vs = L2.wipe (L2.wipe σ vs) vs := by
          rw [hwσ, wipeL_G, wipeL_G, wipeG_wipe fun _ z => z]
        refine ⟨by first | exact hwσ | exact hwσ2, ?_⟩
        have stp' : Step S.K Fs1.flatten H1 (F2.flatten ++ [L]) H' := (stp.trans (Step.same sm fun a z => .inl z)).sub fun a z => (List.mem_append.mp z).elim (fun z => List.mem_append_left _ (le2 a z)) fun z => List.mem_append_right _ z
        have hD' : H' L = some (.lst ai) := sm _ _ hDi
        have da' : DatA S.K (GG (GG R [L]) F2.flatten) H' ai di := DatA.pres ((pres_same sm).trans (Pres.less fun a z => z.imp id (le2 a))) _ _ dai
        refine F (GG R [L]) σ2 H' r1 F2 b r2' _ st2 b2 fun H3 F3 st3 s3 => ?_
        have hD3 : H3 L = some (.lst ai) := s3.keep L _ hD' st2.apart
        have da3 : DatA S.K (GG (GG R [L]) F3.flatten) H3 ai di := DatA.pres (s3.pres fun a z => .inl z) _ _ da'
        have stp3 := stp'.trans (s3.beside (E := [L]))
        cases b with
        | false =>
          rw [if_neg Bool.false_ne_true]
          have e1' : PL.R.ok (([] : List D), r2') = PL.R.ok (o, ρn) := e1'
          cases e1'
          refine ⟨ρn, wipeF F3 vs, ai, di, r2, ?_, hD3, ?_, ?_, e2', eqi, hlt⟩
          · rw [← hwσ]; exact st3.wipeL vs
          · exact DatA.pres (Pres.less fun a z => z.imp id (wipeF_sub a)) _ _ da3
          · exact stp3.sub fun a z => (List.mem_append.mp z).elim (fun z => List.mem_append_left _ (wipeF_sub a z)) fun z => List.mem_append_right _ z
        | true =>
          rw [if_pos rfl]
          have e1' : (evalI S.T pit1 r2').bnd (fun (inner, r3) => compLoop (turnC S.T (tgT ptg1) ptg1 pc1 pelt) inner r3) = PL.R.ok (o, ρn) := e1'
          obtain ⟨⟨inner, r3⟩, b4, e1'⟩ := ok_bnd e1'
          refine I1 (GG R [L]) σ2 H3 r2' F3 inner r3 _ st3 b4 fun J1 H4 F4 st4 s4 wk1 hlen1 => ?_
          have hD4 : H4 L = some (.lst ai) := s4.keep L _ hD3 st3.apart
          have da4 : DatA S.K (GG (GG R [L]) F4.flatten) H4 ai di := DatA.pres (s4.pres fun a z => .inl z) _ _ da3
          have stp4 := stp3.trans (s4.beside (E := [L]))
          have hlen : di.length + o.length ≤ sizeLine := by
            have h1 : (di ++ (o ++ r2)).length = ys.length := by rw [eqi]
            rw [List.length_append, List.length_append] at h1
            have h2 : sizeCap = sizeLine := rfl
            omega
          refine clause_loop (S := S) G1 F1 E (vs := tgT ptg1) (σ0 := σ2) (fun _ z => z) wk1 (Hs := H4) (Pres.less fun a z => z.imp id (wipeF_sub a)) (st4.wipeL (tgT ptg1)) hD4 (DatA.pres (Pres.less fun a z => z.imp id (wipeF_sub a)) _ _ da4) e1' hlen fun H5 F5 acc' st5 hD5 da5 s5 => ?_
          refine ⟨ρn, wipeF F5 vs, acc', di ++ o, r2, ?_, hD5, ?_, ?_, e2', by rw [List.append_assoc]; exact eqi, hlt⟩
          · have h1 := st5.wipeL vs
            have h2 : L2.wipe (L2.wipe σ2 (tgT ptg1)) vs = L2.wipe σ vs := by
              rw [← hwσ, wipeL_G, wipeL_G, wipeL_G, wipeG_wipe hsub1]
            have h3 : wipe (wipe ρn (tgT ptg1)) vs = wipe ρn vs := by
              rw [wipe_G, wipe_G, wipe_G, wipeG_wipe hsub1]
            rw [h2, h3] at h1
            exact h1
          · exact DatA.pres (Pres.less fun a z => z.imp id (wipeF_sub a)) _ _ da5
          · refine (stp4.trans ((Step.same (Same.refl _) (F' := (wipeF F4 (tgT ptg1)).flatten ++ [L]) fun a z => .inl ?_).trans s5)).sub fun a z => (List.mem_append.mp z).elim (fun z => List.mem_append_left _ (wipeF_sub a z)) fun z => List.mem_append_right _ z
            exact (List.mem_append.mp z).elim (fun z => List.mem_append_left _ (wipeF_sub a z)) fun z => List.mem_append_right _ z
      · left
        obtain rfl : i = items.length := by omega
        rw [List.drop_length] at evi
        cases evi
        rw [List.append_nil] at eqi
        refine ⟨wk.stop _ H2 pi, ?_⟩
        have hρ : ρ1.length = ρ2.length := by
          have h1 := sti.lenσ
          have h2 := st0.lenσ
          rw [wipe_G, wipeG_len] at h1 h2
          rw [wipe_G, wipeG_len] at h2
          omega
        exact comp_end st1 hw hρ hL sti hDi (by rw [← eqi]; exact dai) s1 stp q
    · cases ev
  · cases ev
theorem sec_comp2 {elt tg iter tg1 iter1 : Expr} {ifs ifs1 : List Expr} {scope : Scope} {own : List (Str × Nat)} {pelt pc pc1 : PE} {ptg ptg1 : PTg} {pit pit1 : PIt} {vs : List Nat} {pos : Pos} (hN : S.N.Nodup) (ok : ∀ X, In S X → L2.BlkOk X.N X.env.scope scope own) (hv : own.map (·.2) = vs)
    (I : SI S tg iter pit) (G : SGt (S.blk scope) tg ptg) (F : SF (S.blk scope) ifs pc) (I1 : SI (S.blk scope) tg1 iter1 pit1) (G1 : SGt (S.blk scope) tg1 ptg1) (F1 : SF (S.blk scope) ifs1 pc1) (E : SD (S.blk scope) elt pelt) (hs : noSet iter = true) (hs1 : noSet iter1 = true) (hk : scope.kind = .function) (hsub : ∀ i ∈ tgT ptg, i ∈ vs) (hsub1 : ∀ i ∈ tgT ptg1, i ∈ vs) :
    SEC S (.ListComp elt [⟨tg, iter, ifs, 0⟩, ⟨tg1, iter1, ifs1, 0⟩] scope pos) (.comp2 pelt vs ptg pit pc ptg1 pit1 pc1) := by
  obtain ⟨wi, pi, fi⟩ := I
  obtain ⟨g, pg, fg⟩ := G
  obtain ⟨tt, pt, ft⟩ := F
  obtain ⟨wi1, pi1, fi1⟩ := I1
  obtain ⟨g1, pg1, fg1⟩ := G1
  obtain ⟨tt1, pt1, ft1⟩ := F1
  obtain ⟨te, pe, fe⟩ := E
  subst hv
  refine ⟨_, .plain (fun X hX => ?_) rfl, comp2_sem (S := S) fi fg ft fi1 fg1 ft1 fe hsub hsub1, fun X hX i y py spos hy hl hsw => ?_⟩
  · exact L2.pe_lc2 hX.calm (by rw [hX.N]; exact hN) (pi X hX) (ok X hX) hsub1 (fun s H C cl fp => pg _ (hX.blk hk s H C cl fp)) (fun s H C cl fp => pt _ (hX.blk hk s H C cl fp)) (fun s H C cl fp => pi1 _ (hX.blk hk s H C cl fp)) (fun s H C cl fp => pg1 _ (hX.blk hk s H C cl fp)) (fun s H C cl fp => pt1 _ (hX.blk hk s H C cl fp)) (fun s H C cl fp => (pe _ (hX.blk hk s H C cl fp)).1) (noSet_ok hs _) (noSet_ok hs1)
  · exact L2.ps_setLc2 hX.calm (by rw [hX.N]; exact hN) hy hl hsw (pi X hX) (ok X hX) hsub1 (fun s H C cl fp => pg _ (hX.blk hk s H C cl fp)) (fun s H C cl fp => pt _ (hX.blk hk s H C cl fp)) (fun s H C cl fp => pi1 _ (hX.blk hk s H C cl fp)) (fun s H C cl fp => pg1 _ (hX.blk hk s H C cl fp)) (fun s H C cl fp => pt1 _ (hX.blk hk s H C cl fp)) (fun s H C cl fp => (pe _ (hX.blk hk s H C cl fp)).1) (noSet_ok hs _) (noSet_ok hs1)
/-- the block's names, checked -/
def blkB (N : List Str) (nm : List (Str × NameKind)) (scope : Scope) (own : List (Str × Nat)) : Bool :=
  (match scope.kind with | .function => true | _ => false) && ((scope.names.all fun y => scope.names.lookup y.1 == some y.2) && ((own.all fun p => N[p.2]? == some p.1) &&
    (scope.names.all fun y => match y.2 with
      | .free => (match nm.lookup y.1 with | some .cell => true | some .free => true | _ => false)
      | .local => (own.any fun p => p.1 == y.1) || !(N.contains y.1)
      | .cell => (own.any fun p => p.1 == y.1) || !(N.contains y.1)
      | _ => true)))
theorem blkB_ok {scope : Scope} {own : List (Str × Nat)} (h : blkB S.N S.nm scope own = true) : scope.kind = .function ∧ ∀ X, In S X → L2.BlkOk X.N X.env.scope scope own := by
  unfold blkB at h
  rw [Bool.and_eq_true, Bool.and_eq_true, Bool.and_eq_true] at h
  obtain ⟨h1, h2, h3, h4⟩ := h
  have hk : scope.kind = .function := by
    split at h1
    · assumption
    · cases h1
  rw [List.all_eq_true] at h2 h3 h4
  refine ⟨hk, fun X hX => ⟨hk, fun y hy => by simpa using h2 y hy, fun p hp => by rw [hX.N]; simpa using h3 p hp, fun y hy e => ?_, fun y hy e => ?_⟩⟩
  · have q := h4 y hy
    rw [e] at q
    rw [hX.nm]
    dsimp only at q
    split at q
    · exact .inl (by assumption)
    · exact .inr (by assumption)
    · cases q
  · have q := h4 y hy
    rw [hX.N]
    have q : ((own.any fun p => p.1 == y.1) || !(S.N.contains y.1)) = true := by
      rcases e with e | e <;> rw [e] at q <;> exact q
    rw [Bool.or_eq_true] at q
    rcases q with q | q
    · obtain ⟨p, hp, hq⟩ := List.any_eq_true.mp q
      exact .inl (List.mem_map.mpr ⟨p, hp, by simpa using hq⟩)
    · exact .inr (by simpa using q)
end
end PL
end

section
set_option Elab.async false
set_option linter.all false
set_option maxRecDepth 100000
set_option autoImplicit false
/-! SE8: own things changed in place: pop; the statements' meaning. -/
namespace PL
open PySem PySem.Spec PyProof.Rows
open L2 (V Hp HO upd upd_same upd_ne SqL SqT Rd Same Cx OpR UnR CallR R2 VK Inv EP RelV FnOk Sp Room)

section
variable {K : PySem.W.Frag} {R : Addr → Prop} {σ : L2.St} {H : Hp} {ρ : Env} {Fs : List (List Addr)}
theorem flat_split {j : Nat} {F : List Addr} {Fs : List (List Addr)} (e : Fs[j]? = some F) : ∀ a ∈ Fs.flatten, a ∈ F ∨ a ∈ (Fs.set j []).flatten := fun a ha => by
  have : Fs.set j F = Fs := by
    obtain ⟨hl, he⟩ := List.getElem?_eq_some_iff.mp e
    rw [← he]
    exact List.set_getElem_self hl
  rw [← this] at ha
  exact flat_set a ha
/-- the one object that slot j owns is written -/
theorem StOk.mutAt (st : StOk K R σ ρ Fs H) {j : Nat} {a : Addr} {s : SV} (eρ : ρ[j]? = some (some s)) (eσ : σ[j]? = some (some (.ref a))) (eF : Fs[j]? = some [a]) {u : HO} {k' : Kd} {x' : D}
    (hu : HLen (upd H a u)) (nt : ∀ xs, H a ≠ some (.tup xs)) (new : Own K (GG R Fs.flatten) (upd H a u) k' (.ref a) x' [a]) : StOk K R σ (ρ.set j (some (k', x'))) Fs (upd H a u) ∧ Step K Fs.flatten H Fs.flatten (upd H a u) := by
  obtain ⟨k, x⟩ := s
  obtain ⟨v, F, e1, e2, o, n, dR, dF, st'⟩ := st.take eρ
  rw [eσ] at e1
  rw [eF] at e2
  cases e1
  cases e2
  have hG : ∀ b, GG (GG R [a]) (Fs.set j []).flatten b → GG R Fs.flatten b := fun b z => by
    rcases z with (z | z) | z
    · exact .inl z
    · exact .inr (flat_mem eF b z)
    · exact .inr (flat_less b z)
  have pr : Pres K (GG (GG R [a]) (Fs.set j []).flatten) H (GG (GG R [a]) (Fs.set j []).flatten) (upd H a u) :=
    ⟨fun b o e g => ⟨by rw [upd_ne fun z => g (by rw [z]; exact .inl (.inr (List.mem_singleton.mpr rfl)))]; exact e, g⟩, fun b xs e => by
      rw [upd_ne fun z => nt xs (by rw [← z]; exact e)]; exact e⟩
  have st2 : StOk K (GG R [a]) σ (ρ.set j none) (Fs.set j []) (upd H a u) := st'.beside pr (fun b hb => upd_ne fun z => dF a (List.mem_singleton.mpr rfl) (z ▸ hb)) st'.dis (fun b z => by
    by_cases e : b = a
    · exact ⟨u, by rw [e]; exact upd_same⟩
    · obtain ⟨o, h⟩ := st'.rdom b z
      exact ⟨o, by rw [upd_ne e]; exact h⟩) hu
  have hi : j < ρ.length := (List.getElem?_eq_some_iff.mp eρ).1
  have st3 := StOk.put st2 hi eσ (Own.pres (Pres.less hG) _ _ _ _ (fun _ _ => rfl) new) n dR
  have eq : Fs.set j [a] = Fs := by
    obtain ⟨hl, he⟩ := List.getElem?_eq_some_iff.mp eF
    rw [← he]
    exact List.set_getElem_self hl
  rw [eq] at st3
  exact ⟨st3, fun b o e g => by rw [upd_ne fun z => g (by rw [z]; exact flat_mem eF a (List.mem_singleton.mpr rfl))]; exact e, fun b xs e => by
      rw [upd_ne fun z => nt xs (by rw [← z]; exact e)]; exact e, fun b z => .inl z⟩
/-- the own list at slot j -/
theorem StOk.mutL (st : StOk K R σ ρ Fs H) {j : Nat} {xs : List D} (e : ρ[j]? = some (some (.l .d, .list xs))) :
    ∃ a vs, σ[j]? = some (some (.ref a)) ∧ H a = some (.lst vs) ∧ DatA K (GG R Fs.flatten) H vs xs ∧ ∀ vs' xs', DatA K (GG R Fs.flatten) H vs' xs' → vs'.length ≤ sizeLine → StOk K R σ (ρ.set j (some (.l .d, .list xs'))) Fs (upd H a (.lst vs')) ∧ Step K Fs.flatten H Fs.flatten (upd H a (.lst vs')) := by
  obtain ⟨v, F, e1, e2, o⟩ := st.slots.get e
  cases o with
  | @l _ a vs _ F' hs oa =>
    obtain ⟨da, rfl⟩ := oa.dat
    refine ⟨a, vs, e1, hs, da, fun vs' xs' d' hl => ?_⟩
    have ga : GG R Fs.flatten a := .inr (flat_mem e2 a (List.mem_singleton.mpr rfl))
    exact st.mutAt e e1 e2 (st.len.lst hl) (fun xs z => by rw [hs] at z; cases z) (.l upd_same (OwnA.of (DatA.pres (pres_upd hs ga) _ _ d')))
theorem isLst_ok {x : D} (h : isLstT x = true) : ∃ xs, x = .list xs := by
  cases x <;> first | exact ⟨_, rfl⟩ | cases h
theorem StOk.isList (st : StOk K R σ ρ Fs H) {j : Nat} {s : SV} (e : ρ[j]? = some (some s)) (h : isLstT s.2 = true) : ∃ a, σ[j]? = some (some (.ref a)) ∧ L2.tyV K "list" (.ref a) H := by
  obtain ⟨k, x⟩ := s
  obtain ⟨xs, rfl⟩ := isLst_ok h
  obtain ⟨v, F, e1, e2, o⟩ := st.slots.get e
  cases o with
  | d o => cases o with
    | lst g hs ha => exact ⟨_, e1, .inl ⟨rfl, _, .inl (.inl hs)⟩⟩
  | s hs ha => exact ⟨_, e1, .inl ⟨rfl, _, hs.seq⟩⟩
  | l hs oa => exact ⟨_, e1, .inl ⟨rfl, _, .inl (.inl hs)⟩⟩
end
section
variable {S : Stat}
theorem nameBase {x name : Str} {p : Pos} {env : PySem.Env} : attributeBase (.Name x p) name env (eval (.Name x p) env) = eval (.Name x p) env := rfl
theorem pe_K {w : PySem.W.Frag → L2.TE} {e : Expr} (h : ∀ X, In S X → L2.PE X e (w X.K)) : ∀ X, In S X → L2.PE X e (w S.K) := fun X hX => hX.K ▸ h X hX
/-- what is popped is data beside -/
theorem fin_pop {R : Addr → Prop} {σ : L2.St} {H H' : Hp} {ρ' : Env} {Fs Fs' : List (List Addr)} {x : D} {v : V} {Q : VK} (st : StOk S.K R σ ρ' Fs' H') (d : Dat S.K (GG R Fs'.flatten) H' v x) (step : Step S.K Fs.flatten H Fs'.flatten H')
    (q : ∀ v H' Fs' Fr, noS .d = true → StOk S.K (GG R Fr) σ ρ' Fs' H' → Own S.K (GG (GG R Fr) Fs'.flatten) H' .d v x Fr → Fr.Nodup → (∀ a ∈ Fr, ¬ R a) → Step S.K Fs.flatten H (Fs'.flatten ++ Fr) H' → Q v H') : Q v H' := fin_dat st d step q
theorem se_pop {x : Str} {j : Nat} {p apos cpos : Pos} (pe : PEc S (.Name x p) (L2.tVar j)) (hl : (apos.endLine == cpos.line) = true) : SE S (.Call (.Attribute (.Name x p) "pop" apos) [] [] cpos) (.pop j) := by
  refine ⟨_, .plain (pe_K (w := fun K => L2.tBM0 K "list" L2.rPop (L2.tVar j)) fun X hX => L2.pe_bm0 PySem.F.plainAttrs_list PySem.F.slot_list_pop PySem.F.type_list_pop L2.mt_pop (pe X hX).1 nameBase hl) rfl, fun R σ H ρ Fs k y ρ' Q st ev q => ?_⟩
  obtain ⟨⟨k0, x0⟩, e1, ev⟩ := ok_bnd (show (get ρ j).bnd _ = _ from ev)
  have e1 := get_some e1
  dsimp only at ev
  split at ev
  · rename_i xs _
    split at ev
    · rename_i z hz
      cases ev
      obtain ⟨a, vs, eσ, hs, da, mu⟩ := st.mutL e1
      obtain ⟨st2, step⟩ := mu vs.dropLast xs.dropLast da.dropLast (Nat.le_trans (by rw [List.length_dropLast]; omega) (st.len.l hs))
      rw [List.getLast?_eq_getElem?] at hz
      obtain ⟨v, ev, dv⟩ := da.get hz
      refine ⟨.ref a, eσ, .inl ⟨rfl, _, .inl (.inl hs)⟩, a, vs, v, rfl, rfl, hs, by rw [da.len]; exact ev, ?_⟩
      exact fin_dat st2 (Dat.pres (step.pres fun a z => .inl z) _ _ dv) step q
    · cases ev
  · cases ev
theorem ixN_eq {n : Nat} {i : Int} : ixN n i = L2.ixN n i := rfl
theorem ixN_seq {n j : Nat} {i : Int} (h : ixN n i = some j) (hn : n ≤ sizeLine) : -(2 ^ 63) ≤ i ∧ i < 2 ^ 63 ∧ seqIndex? i n = some j ∧ j < n := by
  obtain ⟨h1, h2, h3, h4⟩ := L2.ixN_seq h
  have := L2.line63
  exact ⟨by omega, by omega, h1, h2⟩
theorem se_popAt {x : Str} {j : Nat} {e : Expr} {pe1 : PE} {p apos cpos : Pos} (pe : PEc S (.Name x p) (L2.tVar j)) (A : SD S e pe1) (n : noStar e = true) (hl : (apos.endLine == cpos.line) = true) : SE S (.Call (.Attribute (.Name x p) "pop" apos) [e] [] cpos) (.popAt j pe1) := by
  obtain ⟨te, pea, f⟩ := A
  refine ⟨_, .plain (pe_K (w := fun K => L2.tBM K "list" L2.rPopAt (L2.tVar j) (L2.tCons te L2.tNil)) fun X hX => L2.pe_bm PySem.F.plainAttrs_list PySem.F.slot_list_pop PySem.F.type_list_pop L2.mt_popAt (pe X hX).1 (pa1 (pea X hX).1 n) nameBase (by rw [star_cons n]; rfl) hl (star_cons n _ _) rfl) rfl, fun R σ H ρ Fs k y ρ' Q st ev q => ?_⟩
  obtain ⟨s0, e0, ev⟩ := ok_bnd (show (get ρ j).bnd _ = _ from ev)
  split at ev
  · rename_i hl0
    obtain ⟨⟨⟨kv, xv⟩, ρ1⟩, e1, ev⟩ := ok_bnd (show (evalE S.T pe1 ρ).bnd _ = _ from ev)
    obtain ⟨i, e2, ev⟩ := ok_bnd ev
    obtain rfl : xv = .int i := asInt_ok e2
    obtain ⟨⟨k0, x0⟩, e3, ev⟩ := ok_bnd (show (get ρ1 j).bnd _ = _ from ev)
    have e3 := get_some e3
    obtain ⟨a0, eσ0, ty⟩ := st.isList (get_some e0) hl0
    refine ⟨.ref a0, eσ0, ty, f R σ H ρ Fs kv _ ρ1 _ st e1 fun v H1 Fs1 st1 d1 s1 => ?_⟩
    cases d1
    dsimp only at ev
    split at ev
    · rename_i xs _
      split at ev
      · rename_i m hm
        split at ev
        · rename_i z hz
          cases ev
          obtain ⟨a, vs, eσ, hs, da, mu⟩ := st1.mutL e3
          rw [eσ0] at eσ
          cases eσ
          obtain ⟨st2, step⟩ := mu (vs.eraseIdx m) (xs.eraseIdx m) (da.erase m) (Nat.le_trans (L2.len_erase _ _) (st1.len.l hs))
          obtain ⟨v, ev, dv⟩ := da.get hz
          obtain ⟨h1, h2, h3, h4⟩ := ixN_seq hm (by rw [← da.len]; exact st1.len.l hs)
          refine ⟨a0, vs, i, m, v, rfl, rfl, hs, h1, h2, by rw [da.len]; exact h3, ev, ?_⟩
          exact fin_dat st2 (Dat.pres (step.pres fun a z => .inl z) _ _ dv) (s1.trans step) q
        · cases ev
      · cases ev
    · cases ev
  · cases ev

/-! ### statements -/
def Keep (ws : List Nat) (σ σ' : L2.St) : Prop := ∀ i, i ∉ ws → σ'[i]? = σ[i]?
theorem Keep.refl {ws : List Nat} {σ : L2.St} : Keep ws σ σ := fun _ _ => rfl
theorem Keep.trans {ws : List Nat} {σ σ1 σ2 : L2.St} (a : Keep ws σ σ1) (b : Keep ws σ1 σ2) : Keep ws σ σ2 := fun i h => (b i h).trans (a i h)
theorem Keep.more {ws ws' : List Nat} {σ σ1 : L2.St} (a : Keep ws σ σ1) (h : ∀ i ∈ ws, i ∈ ws') : Keep ws' σ σ1 := fun i hi => a i fun z => hi (h i z)
def After (K : PySem.W.Frag) (R : Addr → Prop) (σ : L2.St) (H : Hp) (Fs : List (List Addr)) (ws : List Nat) (E : L2.Ends) : Out → Prop
  | .nx ρ' => ∀ σ' H' Fs', StOk K R σ' ρ' Fs' H' → Step K Fs.flatten H Fs'.flatten H' → Keep ws σ σ' → E.nx σ' H'
  | .bk ρ' => ∀ σ' H' Fs', StOk K R σ' ρ' Fs' H' → Step K Fs.flatten H Fs'.flatten H' → Keep ws σ σ' → E.bk σ' H'
  | .ct ρ' => ∀ σ' H' Fs', StOk K R σ' ρ' Fs' H' → Step K Fs.flatten H Fs'.flatten H' → Keep ws σ σ' → E.ct σ' H'
  | .rt s ρ' => ∀ v σ' H' Fs' Fr, StOk K (GG R Fr) σ' ρ' Fs' H' → Own K (GG (GG R Fr) Fs'.flatten) H' s.1 v s.2 Fr → Fr.Nodup → (∀ a ∈ Fr, ¬ R a) → Step K Fs.flatten H (Fs'.flatten ++ Fr) H' → Keep ws σ σ' → E.rt v H'
theorem After.shift {K : PySem.W.Frag} {R : Addr → Prop} {σ σ1 : L2.St} {H H1 : Hp} {Fs Fs1 : List (List Addr)} {ws ws1 : List Nat} {E : L2.Ends} {o : Out} (h : After K R σ H Fs ws E o) (s : Step K Fs.flatten H Fs1.flatten H1) (k : Keep ws σ σ1) (hw : ∀ i ∈ ws1, i ∈ ws) : After K R σ1 H1 Fs1 ws1 E o := by
  cases o with
  | nx ρ' => exact fun σ' H' Fs' a b c => h σ' H' Fs' a (s.trans b) (k.trans (c.more hw))
  | bk ρ' => exact fun σ' H' Fs' a b c => h σ' H' Fs' a (s.trans b) (k.trans (c.more hw))
  | ct ρ' => exact fun σ' H' Fs' a b c => h σ' H' Fs' a (s.trans b) (k.trans (c.more hw))
  | rt x ρ' => exact fun v σ' H' Fs' Fr a o n d b c => h v σ' H' Fs' Fr a o n d (s.trans b) (k.trans (c.more hw))
def SemS (S : Stat) (t : L2.TS) (p : PS) : Prop := ∀ (R : Addr → Prop) (σ : L2.St) (H : Hp) (ρ : Env) (Fs : List (List Addr)) (o : Out) (E : L2.Ends), StOk S.K R σ ρ Fs H → execS S.T p ρ = .ok o → After S.K R σ H Fs (tgS p) E o → t E σ H
def SS (S : Stat) (s : Stmt) (p : PS) : Prop := ∃ t : L2.TS, (∀ X, In S X → L2.PS X s t) ∧ SemS S t p
def SemSs (S : Stat) (t : L2.TS) (p : List PS) : Prop := ∀ (R : Addr → Prop) (σ : L2.St) (H : Hp) (ρ : Env) (Fs : List (List Addr)) (o : Out) (E : L2.Ends), StOk S.K R σ ρ Fs H → execSs S.T p ρ = .ok o → After S.K R σ H Fs (tgSs p) E o → t E σ H
def SSs (S : Stat) (s : List Stmt) (p : List PS) : Prop := ∃ t : L2.TS, (∀ X, In S X → L2.PSs X s t) ∧ SemSs S t p
theorem sss_nil : SSs S [] [] := ⟨_, fun X hX => L2.pss_nil, fun R σ H ρ Fs o E st ev af => by cases ev; exact af σ H Fs st Step.refl Keep.refl⟩
theorem sss_cons {s : Stmt} {ss : List Stmt} {p : PS} {ps : List PS} (h : SS S s p) (hs : SSs S ss ps) : SSs S (s :: ss) (p :: ps) := by
  obtain ⟨t, pt, f⟩ := h
  obtain ⟨ts, pts, fs⟩ := hs
  refine ⟨_, fun X hX => L2.pss_cons (pt X hX) (pts X hX), fun R σ H ρ Fs o E st ev af => ?_⟩
  obtain ⟨o1, e1, ev⟩ := ok_bnd (show (execS S.T p ρ).bnd _ = _ from ev)
  have w1 : ∀ i ∈ tgS p, i ∈ tgSs (p :: ps) := fun i hi => List.mem_append_left _ hi
  have w2 : ∀ i ∈ tgSs ps, i ∈ tgSs (p :: ps) := fun i hi => List.mem_append_right _ hi
  refine f R σ H ρ Fs o1 _ st e1 ?_
  cases o1 with
  | nx ρ1 => exact fun σ1 H1 Fs1 st1 s1 k1 => fs R σ1 H1 ρ1 Fs1 o E st1 ev (af.shift s1 (k1.more w1) w2)
  | bk ρ1 => cases ev; exact fun σ1 H1 Fs1 st1 s1 k1 => af σ1 H1 Fs1 st1 s1 (k1.more w1)
  | ct ρ1 => cases ev; exact fun σ1 H1 Fs1 st1 s1 k1 => af σ1 H1 Fs1 st1 s1 (k1.more w1)
  | rt x ρ1 => cases ev; exact fun v σ1 H1 Fs1 Fr st1 o n d s1 k1 => af v σ1 H1 Fs1 Fr st1 o n d s1 (k1.more w1)
theorem ss_pass {pos : Pos} : SS S (.Pass pos) .pass := ⟨_, fun X hX => L2.ps_pass, fun R σ H ρ Fs o E st ev af => by cases ev; exact af σ H Fs st Step.refl Keep.refl⟩
theorem ss_doc {x : Str} {j : Nat} {pos pos' : Pos} : SS S (.Expr (.Constant (.str x) j pos) pos') .pass := ⟨_, fun X hX => L2.ps_doc, fun R σ H ρ Fs o E st ev af => by cases ev; exact af σ H Fs st Step.refl Keep.refl⟩
theorem ss_brk {pos : Pos} : SS S (.Break pos) .brk := ⟨_, fun X hX => L2.ps_break, fun R σ H ρ Fs o E st ev af => by cases ev; exact af σ H Fs st Step.refl Keep.refl⟩
theorem ss_cont {pos : Pos} : SS S (.Continue pos) .cont := ⟨_, fun X hX => L2.ps_continue, fun R σ H ρ Fs o E st ev af => by cases ev; exact af σ H Fs st Step.refl Keep.refl⟩
def noComp : Expr → Bool
  | .ListComp _ _ _ _ => false
  | .SetComp _ _ _ _ => false
  | .DictComp _ _ _ _ _ => false
  | _ => true
theorem swaps_none {e : Expr} (h : noComp e = true) (t : Option Expr) (l : Nat) (env : PySem.Env) : swapsWith e t l env = pure false := by
  cases e <;> first | rfl | cases h
theorem ss_expr {e : Expr} {p : PE} {pos : Pos} (A : SE S e p) (n : noComp e = true) : SS S (.Expr e pos) (.expr p) := by
  obtain ⟨t, pe, f⟩ := A
  refine ⟨_, fun X hX => L2.ps_expr (pe X hX).1 (swaps_none n _ _ _), fun R σ H ρ Fs o E st ev af => ?_⟩
  obtain ⟨⟨⟨k, x⟩, ρ1⟩, e1, ev⟩ := ok_bnd (show (evalE S.T p ρ).bnd _ = _ from ev)
  cases ev
  exact f R σ H ρ Fs k x ρ1 _ st e1 fun v H1 Fs1 Fr ns st1 o n d s1 => af σ H1 Fs1 (st1.lessR fun a z => .inl z) (s1.sub fun a z => List.mem_append_left _ z) Keep.refl
theorem ss_ret {e : Expr} {p : PE} {pos : Pos} (A : SE S e p) : SS S (.Return (some e) pos) (.ret p) := by
  obtain ⟨t, pe, f⟩ := A
  refine ⟨_, fun X hX => L2.ps_ret (pe X hX).1, fun R σ H ρ Fs o E st ev af => ?_⟩
  obtain ⟨⟨⟨k, x⟩, ρ1⟩, e1, ev⟩ := ok_bnd (show (evalE S.T p ρ).bnd _ = _ from ev)
  cases ev
  exact f R σ H ρ Fs k x ρ1 _ st e1 fun v H1 Fs1 Fr ns st1 o n d s1 => af v σ H1 Fs1 Fr st1 o n d s1 Keep.refl
theorem ss_retMv {x : Str} {j : Nat} {p pos : Pos} (pe : PEc S (.Name x p) (L2.tVar j)) : SS S (.Return (some (.Name x p)) pos) (.retMv j) := by
  refine ⟨_, fun X hX => L2.ps_ret (pe X hX).1, fun R σ H ρ Fs o E st ev af => ?_⟩
  obtain ⟨⟨k, y⟩, e1, ev⟩ := ok_bnd (show (get ρ j).bnd _ = _ from ev)
  cases ev
  obtain ⟨v, F, e2, e3, o, n, d1, d2, st'⟩ := st.take (get_some e1)
  exact ⟨v, e2, af v σ H _ F st' o n d1 (Step.refl.sub fun a z => (List.mem_append.mp z).elim (fun z => flat_less a z) fun z => flat_mem e3 a z) Keep.refl⟩
theorem ss_retN {pos : Pos} : SS S (.Return none pos) .retN := ⟨_, fun X hX => L2.ps_retN, fun R σ H ρ Fs o E st ev af => by
  cases ev
  exact af .non σ H Fs [] (st.lessR fun a z => GG_nil z) (.d .non) List.nodup_nil (fun _ z => (List.not_mem_nil z).elim) (Step.refl.sub fun a z => (List.mem_append.mp z).elim id fun z => (List.not_mem_nil z).elim) Keep.refl⟩
theorem ss_ite {c : Expr} {a b : List Stmt} {pc : PE} {pa pb : List PS} {pos : Pos} (C : STt S c pc) (A : SSs S a pa) (B : SSs S b pb) : SS S (.If c a b pos) (.ite pc pa pb) := by
  obtain ⟨tc, pec, fc⟩ := C
  obtain ⟨ta, pea, fa⟩ := A
  obtain ⟨tb, peb, fb⟩ := B
  refine ⟨_, fun X hX => L2.ps_if (pec X hX) (pea X hX) (peb X hX), fun R σ H ρ Fs o E st ev af => ?_⟩
  obtain ⟨⟨v, ρ1⟩, e1, ev⟩ := ok_bnd (show (evalE S.T pc ρ).bnd _ = _ from ev)
  obtain ⟨t, e2, ev⟩ := ok_bnd ev
  obtain rfl := asBool_ok e2
  refine fc R σ H ρ Fs t ρ1 _ st e1 fun H1 Fs1 st1 s1 => ?_
  cases t with
  | true =>
    rw [if_pos rfl]
    exact fa R σ H1 ρ1 Fs1 o E st1 ev (af.shift s1 Keep.refl fun i hi => List.mem_append_left _ hi)
  | false =>
    rw [if_neg Bool.false_ne_true]
    exact fb R σ H1 ρ1 Fs1 o E st1 ev (af.shift s1 Keep.refl fun i hi => List.mem_append_right _ hi)
end
end PL
end

section
set_option Elab.async false
set_option linter.all false
set_option maxRecDepth 100000
set_option autoImplicit false
/-! SE9: stores, loops. -/
namespace PL
open PySem PySem.Spec PyProof.Rows
open L2 (V Hp HO upd upd_same upd_ne SqL SqT Rd Same Cx OpR UnR CallR R2 VK Inv EP RelV FnOk Sp Room)

section
variable {S : Stat}
/-- a value is stored to a name -/
theorem store_name {R : Addr → Prop} {σ : L2.St} {H0 H : Hp} {ρ ρ' : Env} {F0 Fs : List (List Addr)} {Fr : List Addr} {i : Nat} {v : V} {k : Kd} {x : D} {E : L2.Ends} {ws : List Nat} (st : StOk S.K (GG R Fr) σ ρ Fs H) (o : Own S.K (GG (GG R Fr) Fs.flatten) H k v x Fr) (n : Fr.Nodup) (d : ∀ a ∈ Fr, ¬ R a)
    (s : Step S.K F0.flatten H0 (Fs.flatten ++ Fr) H) (e : setS ρ i (k, x) = .ok ρ') (hw : i ∈ ws) (af : After S.K R σ H0 F0 ws E (.nx ρ')) : E.nx (σ.set i (some v)) H := by
  obtain ⟨hi, rfl⟩ := setS_ok e
  refine af _ H (Fs.set i Fr) (st.store hi o n d) (s.sub fun a z => ?_) fun j hj => ?_
  · exact (flat_set a z).elim (fun z => List.mem_append_right _ z) fun z => List.mem_append_left _ (flat_less a z)
  · rw [List.getElem?_set_ne]
    exact fun z => hj (z ▸ hw)
theorem ss_asg {x : Str} {i : Nat} {e : Expr} {p : PE} {px pos : Pos} (A : SE S e p) (hN : S.N.Nodup) (hi : S.N[i]? = some x) (hx : tgN S x = true) (hs : ∀ X, In S X → swapsWith e (some (.Name x px)) pos.line X.env = pure false) : SS S (.Assign [.Name x px] e pos) (.asg (.var i) p) := by
  obtain ⟨t, pe, f⟩ := A
  refine ⟨_, fun X hX => L2.ps_set (by rw [hX.N]; exact hN) (by rw [hX.N]; exact hi) (tg_ok hX hx).1 (pe X hX).1 (hs X hX) (tg_ok hX hx).2, fun R σ H ρ Fs o E st ev af => ?_⟩
  obtain ⟨⟨⟨k, y⟩, ρ1⟩, e1, ev⟩ := ok_bnd (show (evalE S.T p ρ).bnd _ = _ from ev)
  obtain ⟨ρ2, e2, ev⟩ := ok_bnd ev
  cases ev
  exact f R σ H ρ Fs k y ρ1 _ st e1 fun v H1 Fs1 Fr ns st1 o n d s1 => store_name st1 o n d s1 e2 (List.mem_singleton.mpr rfl) af
/-- .. a comprehension, whose name is at hand while it runs -/
theorem ss_asgC {x : Str} {i : Nat} {e : Expr} {p : PE} {px pos : Pos} (A : SEC S e p) (hi : S.N[i]? = some x) (hx : S.nm.lookup x = some .local) (hs : ∀ X, In S X → swapsWith e (some (.Name x px)) pos.line X.env = pure true) : SS S (.Assign [.Name x px] e pos) (.asg (.var i) p) := by
  obtain ⟨t, pe, f, ps⟩ := A
  refine ⟨_, fun X hX => ps X hX i x px pos (by rw [hX.N]; exact hi) (by rw [hX.nm]; exact hx) (hs X hX), fun R σ H ρ Fs o E st ev af => ?_⟩
  obtain ⟨⟨⟨k, y⟩, ρ1⟩, e1, ev⟩ := ok_bnd (show (evalE S.T p ρ).bnd _ = _ from ev)
  obtain ⟨ρ2, e2, ev⟩ := ok_bnd ev
  cases ev
  exact f R σ H ρ Fs k y ρ1 _ st e1 fun v H1 Fs1 Fr ns st1 o n d s1 => store_name st1 o n d s1 e2 (List.mem_singleton.mpr rfl) af
def noSD : Expr → Bool
  | .SetComp _ _ _ _ => false
  | .DictComp _ _ _ _ _ => false
  | _ => true
def noTup : Expr → Bool
  | .Tuple _ _ _ => false
  | _ => true
/-- whether the name is at hand while the comprehension runs -/
def swB (nm : List (Str × NameKind)) (e : Expr) (x : Str) (px : Pos) : Bool := match e with
  | .ListComp _ _ sc _ => nm.lookup x == some .local && px.line == e.pos.line && !(sc.names.any fun y => y.1 == x && (y.2 == .local || y.2 == .cell))
  | _ => false
theorem swB_ok {e : Expr} {x : Str} {px : Pos} {l : Nat} (h : noSD e = true) {X : Cx} (hX : In S X) : swapsWith e (some (.Name x px)) l X.env = pure (swB S.nm e x px) := by
  have hb : (X.env.blockKind == ScopeKind.function) = true := by
    unfold Env.blockKind
    rw [hX.kind]
    rfl
  have hk : X.env.kindOf x = S.nm.lookup x := by
    unfold Env.kindOf
    rw [hX.nm]
  cases e
  case ListComp elt gs sc p =>
    unfold swapsWith
    simp only [hb, hk, Bool.true_and]
    rfl
  all_goals first | rfl | cases h
theorem ss_asgT {e : Expr} {ts : List Expr} {ps : List PTg} {p : PE} {k : Nat} {pt pos : Pos} (A : SD S e p) (G : SGt S (.Tuple ts k pt) (.tup ps)) (ne : noTup e = true) (nc : noSD e = true) : SS S (.Assign [.Tuple ts k pt] e pos) (.asg (.tup ps) p) := by
  obtain ⟨t, pe, f⟩ := A
  obtain ⟨g, pg, fg⟩ := G
  refine ⟨_, fun X hX => L2.ps_asg (pe X hX).1 (pg X hX) ?_ ?_ rfl, fun R σ H ρ Fs o E st ev af => ?_⟩
  · cases e <;> first | rfl | cases nc
  · cases e <;> first | rfl | cases ne
  · obtain ⟨⟨⟨k, y⟩, ρ1⟩, e1, ev⟩ := ok_bnd (show (evalE S.T p ρ).bnd _ = _ from ev)
    obtain ⟨ρ2, e2, ev⟩ := ok_bnd ev
    cases ev
    refine f R σ H ρ Fs k y ρ1 _ st e1 fun v H1 Fs1 st1 d1 s1 => ?_
    exact fg R σ H1 ρ1 Fs1 v y ρ2 _ st1 d1 e2 fun σ2 Fs2 st2 le2 n2 l2 => af σ2 H1 Fs2 st2 (s1.sub le2) n2
theorem PIp.or {X : Cx} {op : Operator} {r r' : L2.TIp} (h : L2.PIp X op r) (h' : L2.PIp X op r') : L2.PIp X op (fun x y H Q => r x y H Q ∨ r' x y H Q) := fun pins s σ H x y v u Q I rx ry q => q.elim (h pins s σ H x y v u Q I rx ry) (h' pins s σ H x y v u Q I rx ry)
theorem ss_aug {x : Str} {i : Nat} {op : Operator} {po : Op} {f : Int → Int → Int} {e : Expr} {p : PE} {px pos : Pos} (A : SD S e p) (hN : S.N.Nodup) (hi : S.N[i]? = some x) (hx : tgN S x = true) (hop : ∀ X, In S X → L2.PIp X op (L2.ipI f))
    (hsem : ∀ (ρ : Env) (o : Out), execS S.T (.aug i po p) ρ = .ok o → ∃ s0 k v ρ1 a b, ρ[i]? = some (some s0) ∧ evalE S.T p ρ = .ok ((k, v), ρ1) ∧ ρ1[i]? = some (some (.d, .int a)) ∧ v = .int b ∧ o = .nx (ρ1.set i (some (.d, .int (f a b))))) : SS S (.AugAssign (.Name x px) op e pos) (.aug i po p) := by
  obtain ⟨t, pe, fe⟩ := A
  refine ⟨_, fun X hX => L2.ps_aug (by rw [hX.N]; exact hN) (by rw [hX.N]; exact hi) (tg_ok hX hx).1 (pe X hX).1 (hop X hX) (tg_ok hX hx).2, fun R σ H ρ Fs o E st ev af => ?_⟩
  obtain ⟨⟨k0, x0⟩, k, v, ρ1, a, b, e0, e1, e2, rfl, rfl⟩ := hsem ρ o ev
  obtain ⟨w, _, e3, _, _⟩ := st.slots.get e0
  refine ⟨w, e3, fe R σ H ρ Fs k _ ρ1 _ st e1 fun v H1 Fs1 st1 d1 s1 => ?_⟩
  obtain ⟨w', F, e4, e5, o⟩ := st1.slots.get e2
  rw [e3] at e4
  cases e4
  cases o with
  | d o =>
    cases o
    cases d1
    refine ⟨a, b, rfl, rfl, ?_⟩
    have hl : i < ρ1.length := (List.getElem?_eq_some_iff.mp e2).1
    exact store_name (Fr := []) (st1.lessR fun a z => GG_nil z) (.d (.int _)) List.nodup_nil (fun _ z => (List.not_mem_nil z).elim) (s1.sub fun a z => (List.mem_append.mp z).elim id fun z => (List.not_mem_nil z).elim) (show setS ρ1 i (.d, .int (f a b)) = .ok _ by unfold setS; rw [if_pos hl]) (List.mem_singleton.mpr rfl) af
theorem ss_augAdd {x : Str} {i : Nat} {e : Expr} {p : PE} {px pos : Pos} (A : SD S e p) (hN : S.N.Nodup) (hi : S.N[i]? = some x) (hx : tgN S x = true) : SS S (.AugAssign (.Name x px) .Add e pos) (.aug i .add p) := by
  refine ss_aug A hN hi hx (fun X hX => L2.ip_add) fun ρ o ev => ?_
  obtain ⟨s0, e0, ev⟩ := ok_bnd (show (get ρ i).bnd _ = _ from ev)
  obtain ⟨⟨⟨k, v⟩, ρ1⟩, e1, ev⟩ := ok_bnd (show (evalE S.T p ρ).bnd _ = _ from ev)
  obtain ⟨⟨k1, x1⟩, e2, ev⟩ := ok_bnd (show (get ρ1 i).bnd _ = _ from ev)
  cases k1 <;> try cases ev
  cases x1 <;> try cases ev
  cases v <;> cases ev
  exact ⟨s0, _, _, _, _, _, get_some e0, e1, get_some e2, rfl, rfl⟩
theorem ss_augSub {x : Str} {i : Nat} {e : Expr} {p : PE} {px pos : Pos} (A : SD S e p) (hN : S.N.Nodup) (hi : S.N[i]? = some x) (hx : tgN S x = true) : SS S (.AugAssign (.Name x px) .Sub e pos) (.aug i .sub p) := by
  refine ss_aug A hN hi hx (fun X hX => L2.ip_sub) fun ρ o ev => ?_
  obtain ⟨s0, e0, ev⟩ := ok_bnd (show (get ρ i).bnd _ = _ from ev)
  obtain ⟨⟨⟨k, v⟩, ρ1⟩, e1, ev⟩ := ok_bnd (show (evalE S.T p ρ).bnd _ = _ from ev)
  obtain ⟨⟨k1, x1⟩, e2, ev⟩ := ok_bnd (show (get ρ1 i).bnd _ = _ from ev)
  cases k1 <;> try cases ev
  cases x1 <;> try cases ev
  cases v <;> cases ev
  exact ⟨s0, _, _, _, _, _, get_some e0, e1, get_some e2, rfl, rfl⟩
/-! ### append, extend -/
theorem tyL {K : PySem.W.Frag} {H : Hp} {a : Addr} {vs : List V} (h : H a = some (.lst vs)) : L2.tyV K "list" (.ref a) H := .inl ⟨rfl, _, .inl (.inl h)⟩
theorem ps_K {w : PySem.W.Frag → L2.TS} {s : Stmt} (h : ∀ X, In S X → L2.PS X s (w X.K)) : ∀ X, In S X → L2.PS X s (w S.K) := fun X hX => hX.K ▸ h X hX
theorem ss_app {x : Str} {j : Nat} {e : Expr} {p : PE} {px apos cpos pos : Pos} (pe : PEc S (.Name x px) (L2.tVar j)) (A : SD S e p) (n : noStar e = true) (hl : (apos.endLine == cpos.line) = true) : SS S (.Expr (.Call (.Attribute (.Name x px) "append" apos) [e] [] cpos) pos) (.app j p) := by
  obtain ⟨te, pea, f⟩ := A
  refine ⟨_, ps_K (w := fun K => L2.tDrop (L2.tBM K "list" L2.rAppend (L2.tVar j) (L2.tCons te L2.tNil))) fun X hX => L2.ps_expr (L2.pe_bm PySem.F.plainAttrs_list PySem.F.slot_list_append PySem.F.type_list_append L2.mt_append (pe X hX).1 (pa1 (pea X hX).1 n) nameBase (by rw [star_cons n]; rfl) hl (star_cons n _ _) rfl) rfl, fun R σ H ρ Fs o E st ev af => ?_⟩
  obtain ⟨s0, e0, ev⟩ := ok_bnd (show (get ρ j).bnd _ = _ from ev)
  split at ev
  · rename_i hl0
    obtain ⟨⟨⟨kv, xv⟩, ρ1⟩, e1, ev⟩ := ok_bnd (show (evalE S.T p ρ).bnd _ = _ from ev)
    obtain ⟨⟨k0, x0⟩, e3, ev⟩ := ok_bnd (show (get ρ1 j).bnd _ = _ from ev)
    have e3 := get_some e3
    obtain ⟨a0, eσ0, ty⟩ := st.isList (get_some e0) hl0
    refine ⟨.ref a0, eσ0, ty, f R σ H ρ Fs kv xv ρ1 _ st e1 fun v H1 Fs1 st1 d1 s1 => ?_⟩
    dsimp only at ev
    split at ev
    · rename_i xs _
      split at ev
      · rename_i hcap
        cases ev
        obtain ⟨a, vs, eσ, hs, da, mu⟩ := st1.mutL e3
        rw [eσ0] at eσ
        cases eσ
        have hlt : vs.length < sizeLine := by rw [da.len]; exact hcap
        obtain ⟨st2, step⟩ := mu (vs ++ [v]) (xs ++ [xv]) (da.app (.one d1)) (by rw [List.length_append]; exact hlt)
        exact ⟨a0, vs, v, rfl, rfl, hs, hlt, af σ _ Fs1 st2 (s1.trans step) Keep.refl⟩
      · cases ev
    · cases ev
  · cases ev
theorem ss_ext {x : Str} {j : Nat} {e : Expr} {p : PE} {px apos cpos pos : Pos} (pe : PEc S (.Name x px) (L2.tVar j)) (A : SD S e p) (n : noStar e = true) (hl : (apos.endLine == cpos.line) = true) : SS S (.Expr (.Call (.Attribute (.Name x px) "extend" apos) [e] [] cpos) pos) (.ext j p) := by
  obtain ⟨te, pea, f⟩ := A
  refine ⟨_, ps_K (w := fun K => L2.tDrop (L2.tBM K "list" L2.rExtend (L2.tVar j) (L2.tCons te L2.tNil))) fun X hX => L2.ps_expr (L2.pe_bm PySem.F.plainAttrs_list PySem.F.slot_list_extend PySem.F.type_list_extend L2.mt_extend (pe X hX).1 (pa1 (pea X hX).1 n) nameBase (by rw [star_cons n]; rfl) hl (star_cons n _ _) rfl) rfl, fun R σ H ρ Fs o E st ev af => ?_⟩
  obtain ⟨s0, e0, ev⟩ := ok_bnd (show (get ρ j).bnd _ = _ from ev)
  split at ev
  · rename_i hl0
    obtain ⟨⟨⟨kv, xv⟩, ρ1⟩, e1, ev⟩ := ok_bnd (show (evalE S.T p ρ).bnd _ = _ from ev)
    obtain ⟨⟨k0, x0⟩, e3, ev⟩ := ok_bnd (show (get ρ1 j).bnd _ = _ from ev)
    have e3 := get_some e3
    obtain ⟨a0, eσ0, ty⟩ := st.isList (get_some e0) hl0
    refine ⟨.ref a0, eσ0, ty, f R σ H ρ Fs kv xv ρ1 _ st e1 fun v H1 Fs1 st1 d1 s1 => ?_⟩
    dsimp only at ev
    split at ev
    · rename_i xs _
      split at ev
      · rename_i ys _
        split at ev
        · rename_i hcap
          cases ev
          obtain ⟨a, vs, eσ, hs, da, mu⟩ := st1.mutL e3
          rw [eσ0] at eσ
          cases eσ
          cases d1 with
          | @lst b ws _ g hb db =>
            have hlt : vs.length + ws.length ≤ sizeLine := by rw [da.len, db.len]; exact hcap
            obtain ⟨st2, step⟩ := mu (vs ++ ws) (xs ++ ys) (da.app db) (by rw [List.length_append]; exact hlt)
            exact ⟨a0, b, vs, ws, rfl, rfl, hs, hb, hlt, af σ _ Fs1 st2 (s1.trans step) Keep.refl⟩
        · cases ev
      · cases ev
    · cases ev
  · cases ev
/-! ### x[i] = e -/
theorem DatK.put {K : PySem.W.Frag} {G : Addr → Prop} {H : Hp} {kvs : List (L2.Key × V)} {kds : List (D × D)} {k : L2.Key} {kd d : D} {v : V} (h : DatK K G H kvs kds) (e : dkey kd = some (.a k)) (hv : Dat K G H v d) : DatK K G H (L2.putK kvs k v) (putK kds kd (.a k) d) := by
  have any : (kvs.any fun kv => decide (kv.1 = k)) = (kds.any fun p => decide (dkey p.1 = some (.a k))) := by
    clear hv e
    induction kds generalizing kvs with
    | nil => cases h; rfl
    | cons p kds ih =>
      obtain ⟨q, x⟩ := p
      cases h with
      | @cons k' v' r _ _ _ e1 h1 h2 =>
        rw [List.any_cons, List.any_cons, ih h2]
        dsimp only
        rw [e1]
        congr 1
        by_cases z : k' = k
        · subst z; simp
        · rw [decide_eq_false z, decide_eq_false fun y => z (by cases y; rfl)]
  unfold L2.putK putK
  rw [any]
  split
  · clear any
    rename_i hh
    clear hh
    induction kds generalizing kvs with
    | nil => cases h; exact .nil
    | cons p kds ih =>
      obtain ⟨q, x⟩ := p
      cases h with
      | @cons k' v' r _ _ _ e1 h1 h2 =>
        rw [List.map_cons, List.map_cons]
        dsimp only
        rw [e1]
        by_cases z : k' = k
        · subst z
          rw [if_pos rfl, if_pos rfl]
          exact .cons e1 hv (ih h2)
        · rw [if_neg z, if_neg fun y => z (by cases y; rfl)]
          exact .cons e1 h1 (ih h2)
  · clear any
    rename_i hh
    clear hh
    induction kds generalizing kvs with
    | nil => cases h; exact .cons e hv .nil
    | cons p kds ih =>
      obtain ⟨q, x⟩ := p
      cases h with
      | cons e1 h1 h2 => exact .cons e1 h1 (ih h2)
theorem DatT.put {K : PySem.W.Frag} {G : Addr → Prop} {H : Hp} {kvs : List (List L2.Key × V)} {kds : List (D × D)} {k : List L2.Key} {kd d : D} {v : V} (h : DatT K G H kvs kds) (e : dkey kd = some (.t k)) (hv : Dat K G H v d) : DatT K G H (L2.putK kvs k v) (putK kds kd (.t k) d) := by
  have any : (kvs.any fun kv => decide (kv.1 = k)) = (kds.any fun p => decide (dkey p.1 = some (.t k))) := by
    clear hv e
    induction kds generalizing kvs with
    | nil => cases h; rfl
    | cons p kds ih =>
      obtain ⟨q, x⟩ := p
      cases h with
      | @cons k' v' r _ _ _ e1 h1 h2 =>
        rw [List.any_cons, List.any_cons, ih h2]
        dsimp only
        rw [e1]
        congr 1
        by_cases z : k' = k
        · subst z; simp
        · rw [decide_eq_false z, decide_eq_false fun y => z (by cases y; rfl)]
  unfold L2.putK putK
  rw [any]
  split
  · clear any
    rename_i hh
    clear hh
    induction kds generalizing kvs with
    | nil => cases h; exact .nil
    | cons p kds ih =>
      obtain ⟨q, x⟩ := p
      cases h with
      | @cons k' v' r _ _ _ e1 h1 h2 =>
        rw [List.map_cons, List.map_cons]
        dsimp only
        rw [e1]
        by_cases z : k' = k
        · subst z
          rw [if_pos rfl, if_pos rfl]
          exact .cons e1 hv (ih h2)
        · rw [if_neg z, if_neg fun y => z (by cases y; rfl)]
          exact .cons e1 h1 (ih h2)
  · clear any
    rename_i hh
    clear hh
    induction kds generalizing kvs with
    | nil => cases h; exact .cons e hv .nil
    | cons p kds ih =>
      obtain ⟨q, x⟩ := p
      cases h with
      | cons e1 h1 h2 => exact .cons e1 h1 (ih h2)
/-- a store to an empty dict whose kind is told by the key -/
def rSetO : L2.TSet := fun o i v H Q => ∃ a u H', o = .ref a ∧ Odd H a i ∧ (H a = some (.dK []) ∧ u = .dT [] ∨ H a = some (.dT []) ∧ u = .dK []) ∧ L2.DPut (upd H a u) a i v H' ∧ Q H'
theorem set_odd {X : Cx} (hu : X.A.units + 1 < cLine) : L2.PSet X rSetO := by
  intro pins s σ H o i v ov iv u Q I ro ri rv ⟨a, w, H', eo, od, hw, g, q⟩
  subst eo
  cases (show ov = Value.ref a from ro)
  rcases hw with ⟨h, rfl⟩ | ⟨h, rfl⟩
  · exact L2.d_setItem hu (Inv.sortT I h) g ri rv fun s4 I4 => ⟨H', I4, q⟩
  · exact L2.d_setItem hu (Inv.sortK I h) g ri rv fun s4 I4 => ⟨H', I4, q⟩
theorem PSet.or {X : Cx} {r r' : L2.TSet} (h : L2.PSet X r) (h' : L2.PSet X r') : L2.PSet X (fun o i v H Q => r o i v H Q ∨ r' o i v H Q) := fun pins s σ H o i v ov iv u Q I ro ri rv q => q.elim (h pins s σ H o i v ov iv u Q I ro ri rv) (h' pins s σ H o i v ov iv u Q I ro ri rv)
def rSet3 : L2.TSet := fun o i v H Q => L2.rSetL o i v H Q ∨ (L2.rSetD o i v H Q ∨ rSetO o i v H Q)
theorem set_3 {X : Cx} (hu : X.A.units + 1 < cLine) : L2.PSet X rSet3 := PSet.or L2.set_list (PSet.or (L2.set_dict hu) (set_odd hu))
end
end PL
end

section
set_option Elab.async false
set_option linter.all false
set_option maxRecDepth 100000
set_option autoImplicit false
/-! SE10: x[i] = e; several names at once; loops. -/
namespace PL
open PySem PySem.Spec PyProof.Rows
open L2 (V Hp HO upd upd_same upd_ne SqL SqT Rd Same Cx OpR UnR CallR R2 VK Inv EP RelV FnOk Sp Room)

section
variable {K : PySem.W.Frag} {R : Addr → Prop} {σ : L2.St} {H : Hp} {ρ : Env} {Fs : List (List Addr)}
theorem pres_at {G : Addr → Prop} {a : Addr} {u : HO} (hG : G a) (nt : ∀ xs, H a ≠ some (.tup xs)) : Pres K G H G (upd H a u) :=
  ⟨fun b o e g => ⟨by rw [upd_ne fun z => g (by rw [z]; exact hG)]; exact e, g⟩, fun b xs e => by
    rw [upd_ne fun z => nt xs (by rw [← z]; exact e)]; exact e⟩
/-- the own dict at slot j -/
theorem StOk.mutD (st : StOk K R σ ρ Fs H) {j : Nat} {kds : List (D × D)} (e : ρ[j]? = some (some (.m .d, .dict kds))) :
    ∃ a, σ[j]? = some (some (.ref a)) ∧ ((∃ kvs, H a = some (.dK kvs) ∧ DatK K (GG R Fs.flatten) H kvs kds) ∨ ∃ kvs, H a = some (.dT kvs) ∧ DatT K (GG R Fs.flatten) H kvs kds) ∧
      (∀ kvs kds', DatK K (GG R Fs.flatten) H kvs kds' → StOk K R σ (ρ.set j (some (.m .d, .dict kds'))) Fs (upd H a (.dK kvs)) ∧ Step K Fs.flatten H Fs.flatten (upd H a (.dK kvs))) ∧
      ∀ kvs kds', DatT K (GG R Fs.flatten) H kvs kds' → StOk K R σ (ρ.set j (some (.m .d, .dict kds'))) Fs (upd H a (.dT kvs)) ∧ Step K Fs.flatten H Fs.flatten (upd H a (.dT kvs)) := by
  obtain ⟨v, F, e1, e2, o⟩ := st.slots.get e
  cases o with
  | @mK _ a vs _ F' hs oa =>
    obtain ⟨da, rfl⟩ := oa.dat
    have ga : GG R Fs.flatten a := .inr (flat_mem e2 a (List.mem_singleton.mpr rfl))
    have nt : ∀ xs, H a ≠ some (.tup xs) := fun xs z => by rw [hs] at z; cases z
    exact ⟨a, e1, .inl ⟨vs, hs, da⟩, fun kvs kds' d' => st.mutAt e e1 e2 st.len.dK nt (.mK upd_same (OwnK.of (DatK.pres (pres_at ga nt) _ _ d'))), fun kvs kds' d' => st.mutAt e e1 e2 st.len.dT nt (.mT upd_same (OwnT.of (DatT.pres (pres_at ga nt) _ _ d')))⟩
  | @mT _ a vs _ F' hs oa =>
    obtain ⟨da, rfl⟩ := oa.dat
    have ga : GG R Fs.flatten a := .inr (flat_mem e2 a (List.mem_singleton.mpr rfl))
    have nt : ∀ xs, H a ≠ some (.tup xs) := fun xs z => by rw [hs] at z; cases z
    exact ⟨a, e1, .inr ⟨vs, hs, da⟩, fun kvs kds' d' => st.mutAt e e1 e2 st.len.dK nt (.mK upd_same (OwnK.of (DatK.pres (pres_at ga nt) _ _ d'))), fun kvs kds' d' => st.mutAt e e1 e2 st.len.dT nt (.mT upd_same (OwnT.of (DatT.pres (pres_at ga nt) _ _ d')))⟩
end
section
variable {S : Stat}
/-- the store, by values -/
theorem put_dict {R : Addr → Prop} {σ : L2.St} {H : Hp} {ρ : Env} {Fs : List (List Addr)} {j : Nat} {kds : List (D × D)} {wx xv : D} {w v : V} {q : DKey} {Z : Hp → Prop} (st : StOk S.K R σ ρ Fs H) (e : ρ[j]? = some (some (.m .d, .dict kds))) (dw : Dat S.K (GG R Fs.flatten) H w wx) (dv : Dat S.K (GG R Fs.flatten) H v xv)
    (hq : dkey wx = some q) (so : sortOk kds q = true) (hl : kds.length < sizeCap)
    (hZ : ∀ H', StOk S.K R σ (ρ.set j (some (.m .d, .dict (putK kds wx q xv)))) Fs H' → Step S.K Fs.flatten H Fs.flatten H' → Z H') : ∃ a, σ[j]? = some (some (.ref a)) ∧ rSet3 (.ref a) w v H Z := by
  obtain ⟨a, eσ, h, mk, mt⟩ := st.mutD e
  refine ⟨a, eσ, .inr ?_⟩
  have kv := dkey_v (Fl.dat (sc := false) dw) hq
  cases q with
  | a k =>
    have ew : w = L2.kV k := kv
    subst ew
    rcases h with ⟨kvs, hs, da⟩ | ⟨kvs, hs, da⟩
    · obtain ⟨s1, s2⟩ := mk _ _ (da.put hq dv)
      exact .inl ⟨a, _, rfl, .inl ⟨kvs, k, hs, rfl, by rw [da.len]; exact hl, rfl⟩, hZ _ s1 s2⟩
    · cases da with
      | nil =>
        have d0 : DatK S.K (GG R Fs.flatten) H (L2.putK [] k v) (putK [] wx (.a k) xv) := DatK.put .nil hq dv
        obtain ⟨s1, s2⟩ := mk _ _ d0
        refine .inr ⟨a, _, _, rfl, .inr ⟨hs, k, rfl⟩, .inr ⟨hs, rfl⟩, .inl ⟨[], k, upd_same, rfl, by show 0 < sizeLine; decide, rfl⟩, ?_⟩
        have : upd (upd H a (.dK [])) a (.dK (L2.putK [] k v)) = upd H a (.dK (L2.putK [] k v)) := by
          funext b
          by_cases z : b = a
          · subst z; rw [upd_same, upd_same]
          · rw [upd_ne z, upd_ne z, upd_ne z]
        rw [this]
        exact hZ _ s1 s2
      | cons e1 h1 h2 =>
        unfold sortOk at so
        dsimp only at so
        rw [e1] at so
        cases so
  | t ks =>
    obtain ⟨b, rfl, hb⟩ : ∃ b, w = .ref b ∧ H b = some (.tup (ks.map L2.kV)) := kv
    rcases h with ⟨kvs, hs, da⟩ | ⟨kvs, hs, da⟩
    · cases da with
      | nil =>
        have d0 : DatT S.K (GG R Fs.flatten) H (L2.putK [] ks v) (putK [] wx (.t ks) xv) := DatT.put .nil hq dv
        obtain ⟨s1, s2⟩ := mt _ _ d0
        have hne : b ≠ a := L2.ne_of hb hs (fun z => nomatch z)
        refine .inr ⟨a, _, _, rfl, .inl ⟨hs, b, ks, rfl, hb⟩, .inl ⟨hs, rfl⟩, .inr ⟨[], ks, b, upd_same, rfl, by rw [upd_ne hne]; exact hb, by show 0 < sizeLine; decide, rfl⟩, ?_⟩
        have : upd (upd H a (.dT [])) a (.dT (L2.putK [] ks v)) = upd H a (.dT (L2.putK [] ks v)) := by
          funext b
          by_cases z : b = a
          · subst z; rw [upd_same, upd_same]
          · rw [upd_ne z, upd_ne z, upd_ne z]
        rw [this]
        exact hZ _ s1 s2
      | cons e1 h1 h2 =>
        unfold sortOk at so
        dsimp only at so
        rw [e1] at so
        cases so
    · obtain ⟨s1, s2⟩ := mt _ _ (da.put hq dv)
      exact .inl ⟨a, _, rfl, .inr ⟨kvs, ks, b, hs, rfl, hb, by rw [da.len]; exact hl, rfl⟩, hZ _ s1 s2⟩
theorem ss_put {x : Str} {j : Nat} {e i : Expr} {p pi : PE} {px psub pos : Pos} (hu : S.A.units + 1 < cLine) (pe : PEc S (.Name x px) (L2.tVar j)) (A : SD S e p) (B : SD S i pi) (ns : noSlice i = true) (nc : noSD e = true) : SS S (.Assign [.Subscript (.Name x px) i psub] e pos) (.put j pi p) := by
  obtain ⟨te, pea, f⟩ := A
  obtain ⟨ti, pei, fi⟩ := B
  refine ⟨L2.tAsg te (L2.gSub (L2.tVar j) ti rSet3), fun X hX => L2.ps_asg (pea X hX).1 (L2.pg_sub (pe X hX).1 (pei X hX).1 (set_3 (by rw [hX.A]; exact hu)) ?_) ?_ ?_ rfl, fun R σ H ρ Fs o E st ev af => ?_⟩
  · intro v
    cases i <;> first | rfl | cases ns
  · cases e <;> first | rfl | cases nc
  · cases e <;> rfl
  · obtain ⟨⟨⟨kv, xv⟩, ρ1⟩, e1, ev⟩ := ok_bnd (show (evalE S.T p ρ).bnd _ = _ from ev)
    obtain ⟨s0, e0, ev⟩ := ok_bnd (show (get ρ1 j).bnd _ = _ from ev)
    obtain ⟨⟨⟨kw, xw⟩, ρ2⟩, e2, ev⟩ := ok_bnd (show (evalE S.T pi ρ1).bnd _ = _ from ev)
    obtain ⟨⟨k0, x0⟩, e3, ev⟩ := ok_bnd (show (get ρ2 j).bnd _ = _ from ev)
    have e3 := get_some e3
    refine f R σ H ρ Fs kv xv ρ1 _ st e1 fun v H1 Fs1 st1 d1 s1 => ?_
    obtain ⟨k00, x00⟩ := s0
    obtain ⟨v0, _, eσ0, _, _⟩ := st1.slots.get (get_some e0)
    refine ⟨v0, eσ0, fi R σ H1 ρ1 Fs1 kw xw ρ2 _ st1 e2 fun w H2 Fs2 st2 d2 s2 => ?_⟩
    have d1 := Dat.pres (s2.pres fun a z => .inl z) _ _ d1
    dsimp only at ev
    split at ev
    · rename_i xs _
      obtain ⟨a, e4, ev⟩ := ok_bnd (show (asInt xw).bnd _ = _ from ev)
      obtain rfl := asInt_ok e4
      have ev : (match ixN xs.length a with
        | some n => PL.R.ok (Out.nx (List.set ρ2 j (some (Kd.l .d, PyData.list (xs.set n xv)))))
        | none => PL.R.no) = PL.R.ok o := ev
      split at ev
      · rename_i n hn
        cases ev
        obtain ⟨l, vs, eσ, hs, da, mu⟩ := st2.mutL e3
        rw [eσ0] at eσ
        cases eσ
        cases d2
        obtain ⟨st3, step⟩ := mu (vs.set n v) (xs.set n xv) (da.set d1 n) (by rw [List.length_set]; exact st2.len.l hs)
        exact .inl ⟨l, vs, a, n, rfl, rfl, hs, by rw [da.len]; exact hn, af σ _ Fs2 st3 (s1.trans (s2.trans step)) Keep.refl⟩
      · cases ev
    · rename_i kds _
      split at ev
      · rename_i q hq
        split at ev
        · rename_i hc
          cases ev
          rw [Bool.and_eq_true] at hc
          obtain ⟨a, eσ, r⟩ := put_dict (Z := fun H3 => E.nx σ H3) st2 e3 d2 d1 hq hc.1 (of_decide_eq_true hc.2) fun H' s3 s4 => af σ H' Fs2 s3 (s1.trans (s2.trans s4)) Keep.refl
          rw [eσ0] at eσ
          cases eσ
          exact r
        · cases ev
      · cases ev
    · cases ev

/-! ### loops -/
theorem forLoop_cons {turn : D → Env → R Out} {x : D} {xs : List D} {ρ : Env} {o : Out} (h : forLoop turn (x :: xs) ρ = .ok o) : ∃ o1, turn x ρ = .ok o1 ∧ match o1 with
    | .nx r => forLoop turn xs r = .ok o
    | .ct r => forLoop turn xs r = .ok o
    | .bk r => o = .nx r
    | .rt v r => o = .rt v r := by
  obtain ⟨o1, e1, h⟩ := ok_bnd (show (turn x ρ).bnd _ = _ from h)
  refine ⟨o1, e1, ?_⟩
  cases o1 with
  | nx r => exact h
  | ct r => exact h
  | bk r => cases h; rfl
  | rt v r => cases h; rfl
theorem ss_for {tg iter : Expr} {body : List Stmt} {ptg : PTg} {pit : PIt} {pb : List PS} {pos : Pos} (I : SI S tg iter pit) (G : SGt S tg ptg) (B : SSs S body pb) (hs : noSet iter = true) : SS S (.For tg iter body [] pos) (.for_ ptg pit pb) := by
  obtain ⟨wi, pi, fi⟩ := I
  obtain ⟨g, pg, fg⟩ := G
  obtain ⟨tb, psb, fb⟩ := B
  refine ⟨_, fun X hX => L2.ps_for (by rw [hX.xe]; exact PassesOwn.never) hX.calm (pi X hX) (pg X hX) (psb X hX) (noSet_ok hs _), fun R σ H ρ Fs o E st ev af => ?_⟩
  obtain ⟨⟨items, ρ1⟩, e1, ev⟩ := ok_bnd (show (evalI S.T pit ρ).bnd _ = _ from ev)
  refine fi R σ H ρ Fs items ρ1 _ st e1 fun J H1 Fs1 st1 s1 wk _ => ?_
  have wg : ∀ i ∈ tgT ptg, i ∈ tgS (.for_ ptg pit pb) := fun i hi => List.mem_append_left _ hi
  have wb : ∀ i ∈ tgSs pb, i ∈ tgS (.for_ ptg pit pb) := fun i hi => List.mem_append_right _ hi
  let P : Nat → L2.St → Hp → Prop := fun i σ' H' => ∃ (ρi : Env) (Fi : List (List Addr)), StOk S.K R σ' ρi Fi H' ∧ Step S.K Fs1.flatten H1 Fi.flatten H' ∧ Keep (tgS (.for_ ptg pit pb)) σ σ' ∧
    forLoop (fun x r => (bindT ptg x r).bnd fun r1 => execSs S.T pb r1) (items.drop i) ρi = .ok o ∧ i ≤ items.length
  refine ⟨fun i m σ' H' => m = items.length - i ∧ P i σ' H', ⟨_, rfl, ρ1, Fs1, st1, Step.refl, Keep.refl, ev, Nat.zero_le _⟩, ?_⟩
  rintro i m σi Hi ⟨rfl, ρi, Fi, sti, stp, kp, evi, hi⟩
  have pi : Pres S.K (GG R Fs1.flatten) H1 (GG R Fi.flatten) Hi := stp.pres fun a z => .inl z
  by_cases hlt : i < items.length
  · right
    obtain ⟨go, yld⟩ := wk.step _ Hi pi sti.len (fun a z => sti.dom a z) i items[i] (List.getElem?_eq_getElem hlt)
    refine ⟨go, P (i + 1), fun σ' H' n => ⟨items.length - (i + 1), by omega, rfl, n⟩, fun v H' hy => ?_⟩
    obtain ⟨sm, hlen, dv⟩ := yld v H' hy
    rw [List.drop_eq_getElem_cons hlt] at evi
    obtain ⟨o1, e2, evi⟩ := forLoop_cons evi
    obtain ⟨r1, b1, e2⟩ := ok_bnd e2
    have st' : StOk S.K R σi ρi Fi H' := sti.beside (pres_same sm) (fun a ha => by
      obtain ⟨o, e, _⟩ := sti.slots.foot a ha
      rw [sm a o e, e]) sti.dis (fun a z => by
      obtain ⟨o, e⟩ := sti.rdom a z
      exact ⟨o, sm a o e⟩) hlen
    refine fg R σi H' ρi Fi v items[i] r1 _ st' dv b1 fun σ2 F2 st2 le2 n2 l2 => ?_
    have stp2 : Step S.K Fs1.flatten H1 F2.flatten H' := (stp.trans (Step.same sm fun a z => .inl z)).sub le2
    have kp2 : Keep (tgS (.for_ ptg pit pb)) σ σ2 := kp.trans (Keep.more n2 wg)
    refine fb R σ2 H' r1 F2 o1 _ st2 e2 ?_
    cases o1 with
    | nx r => exact fun σ3 H3 F3 st3 s3 k3 => ⟨r, F3, st3, stp2.trans s3, kp2.trans (k3.more wb), evi, hlt⟩
    | ct r => exact fun σ3 H3 F3 st3 s3 k3 => ⟨r, F3, st3, stp2.trans s3, kp2.trans (k3.more wb), evi, hlt⟩
    | bk r =>
      have evi : o = .nx r := evi
      subst evi
      exact fun σ3 H3 F3 st3 s3 k3 => af σ3 H3 F3 st3 (s1.trans (stp2.trans s3)) (kp2.trans (k3.more wb))
    | rt x r =>
      have evi : o = .rt x r := evi
      subst evi
      exact fun v σ3 H3 F3 Fr st3 o n d s3 k3 => af v σ3 H3 F3 Fr st3 o n d (s1.trans (stp2.trans s3)) (kp2.trans (k3.more wb))
  · left
    obtain rfl : i = items.length := by omega
    rw [List.drop_length] at evi
    cases evi
    exact ⟨wk.stop _ Hi pi, af σi Hi Fi sti (s1.trans stp) kp⟩
theorem ss_while {c : Expr} {body : List Stmt} {pc : PE} {pb : List PS} {pos : Pos} (C : STt S c pc) (B : SSs S body pb) : SS S (.While c body [] pos) (.while_ pc pb) := by
  obtain ⟨tc, pec, fc⟩ := C
  obtain ⟨tb, psb, fb⟩ := B
  refine ⟨_, fun X hX => L2.ps_while (by rw [hX.xe]; exact PassesOwn.never) (pec X hX) (psb X hX), fun R σ H ρ Fs o E st ev af => ?_⟩
  let P : Nat → L2.St → Hp → Prop := fun m σ' H' => ∃ (ρi : Env) (Fi : List (List Addr)), StOk S.K R σ' ρi Fi H' ∧ Step S.K Fs.flatten H Fi.flatten H' ∧ Keep (tgS (.while_ pc pb)) σ σ' ∧
    whileLoop (fun r => (evalE S.T pc r).bnd fun (v, r1) => (asBool v).bnd fun b => .ok (b, r1)) (fun r => execSs S.T pb r) m ρi = .ok o
  refine ⟨P, ⟨S.T.fuel, ρ, Fs, st, Step.refl, Keep.refl, ev⟩, ?_⟩
  rintro m σi Hi ⟨ρi, Fi, sti, stp, kp, evi⟩
  cases m with
  | zero => cases evi
  | succ m =>
    obtain ⟨⟨b, r⟩, e1, evi⟩ := ok_bnd (show (((evalE S.T pc ρi).bnd fun (v, r1) => (asBool v).bnd fun b => PL.R.ok (b, r1))).bnd _ = _ from evi)
    obtain ⟨⟨v, r1⟩, e2, e1⟩ := ok_bnd e1
    obtain ⟨b', e3, e1⟩ := ok_bnd e1
    cases e1
    obtain rfl := asBool_ok e3
    refine fc R σi Hi ρi Fi b r _ sti e2 fun H1 F1 st1 s1 => ?_
    cases b with
    | false =>
      rw [if_neg Bool.false_ne_true]
      have evi : PL.R.ok (Out.nx r) = PL.R.ok o := evi
      cases evi
      exact af σi H1 F1 st1 (stp.trans s1) kp
    | true =>
      rw [if_pos rfl]
      refine ⟨P m, fun σ' H' n => ⟨m, Nat.lt_succ_self m, n⟩, ?_⟩
      obtain ⟨o1, e4, evi⟩ := ok_bnd (show (execSs S.T pb r).bnd _ = _ from evi)
      refine fb R σi H1 r F1 o1 _ st1 e4 ?_
      cases o1 with
      | nx r => exact fun σ3 H3 F3 st3 s3 k3 => ⟨r, F3, st3, stp.trans (s1.trans s3), kp.trans k3, evi⟩
      | ct r => exact fun σ3 H3 F3 st3 s3 k3 => ⟨r, F3, st3, stp.trans (s1.trans s3), kp.trans k3, evi⟩
      | bk r =>
        cases evi
        exact fun σ3 H3 F3 st3 s3 k3 => af σ3 H3 F3 st3 (stp.trans (s1.trans s3)) (kp.trans k3)
      | rt x r =>
        cases evi
        exact fun v σ3 H3 F3 Fr st3 o n d s3 k3 => af v σ3 H3 F3 Fr st3 o n d (stp.trans (s1.trans s3)) (kp.trans k3)
end
end PL
end

section
set_option Elab.async false
set_option linter.all false
set_option maxRecDepth 100000
set_option autoImplicit false
/-! SE11: several names at once. -/
namespace PL
open PySem PySem.Spec PyProof.Rows
open L2 (V Hp HO upd upd_same upd_ne SqL SqT Rd Same Cx OpR UnR CallR R2 VK Inv EP RelV FnOk Sp Room)

section
variable {S : Stat}
/-- a name that is stored to at once -/
def goodN (nm : List (Str × NameKind)) (l : Nat) (x : Str) (p : Pos) : Bool := nm.lookup x == some .local && p.line == l
theorem noStar_m {e : Expr} (h : noStar e = true) : (match e with | .Starred _ _ => true | _ => false) = false := by
  cases e <;> first | rfl | cases h
theorem blkF {X : Cx} (hX : In S X) : X.env.blockKind = ScopeKind.function := by
  unfold Env.blockKind
  rw [hX.kind]
  rfl
theorem kindN {X : Cx} (hX : In S X) (x : Str) : X.env.kindOf x = S.nm.lookup x := by
  unfold Env.kindOf
  rw [hX.nm]
theorem bneF : (ScopeKind.function != ScopeKind.function) = false := rfl


/-- the names at hand, out of all -/
def handy (nm : List (Str × NameKind)) (l : Nat) (L : List (Str × Pos)) : List Str := L.filterMap fun q => if goodN nm l q.1 q.2 = true then some q.1 else none
def nmE (q : Str × Pos) : Expr := .Name q.1 q.2
def lineOf (L : List (Str × Pos)) : Nat := ((L.map nmE).head?.map (·.pos.line)).getD 0
theorem sw_eq {X : Cx} (hX : In S X) {L : List (Str × Pos)} {vs : List Expr} {kt k2 : Nat} {pt pt2 : Pos} (hs : vs.all noStar = true) : swappedStores [.Tuple (L.map nmE) kt pt] (.Tuple vs k2 pt2) X.env =
    (if (!(L.length == 2 || L.length == 3) || vs.length != L.length) = true then pure none
     else if ((handy S.nm (lineOf L) L).length != L.length || (handy S.nm (lineOf L) L).eraseDups.length != (handy S.nm (lineOf L) L).length) = true then pure none
     else if vs.all (foldedForSure 8) = true then pure none
     else if vs.all (constantsAlone 8) = true then (do
       unsupported "assign.tuple-of-constant-expressions:order-of-the-stores"
       pure (some (handy S.nm (lineOf L) L)))
     else pure (some (handy S.nm (lineOf L) L))) := by
  have any : ∀ (f : Expr → Bool), (∀ e, noStar e = true → f e = false) → vs.any f = false := fun f hf => by
    rw [List.any_eq_false]
    intro e he
    rw [hf e (List.all_eq_true.mp hs e he)]
    decide
  have fm : ∀ (f : Expr → Option Str), (∀ q : Str × Pos, f (nmE q) = if goodN S.nm (lineOf L) q.1 q.2 = true then some q.1 else none) → (L.map nmE).filterMap f = handy S.nm (lineOf L) L := fun f hf => by
    rw [List.filterMap_map]
    unfold handy
    exact congrArg (fun g => L.filterMap g) (funext hf)
  unfold swappedStores
  dsimp only
  rw [any _ (fun e h => by cases e <;> first | rfl | cases h), fm _ (fun q => by
    obtain ⟨x, p⟩ := q
    unfold nmE
    dsimp only
    unfold goodN
    rw [← kindN hX]
    rfl), blkF hX, bneF, Bool.or_false, List.length_map]
  rfl
def parSome (nm : List (Str × NameKind)) (L : List (Str × Pos)) (vs : List Expr) : Bool :=
  (L.length == 2 || L.length == 3) && (vs.length == L.length && (decide (handy nm (lineOf L) L = L.map (·.1)) && (decide ((L.map (·.1)).eraseDups.length = (L.map (·.1)).length) && (!(vs.all (foldedForSure 8)) && !(vs.all (constantsAlone 8))))))
def parNone (nm : List (Str × NameKind)) (L : List (Str × Pos)) (vs : List Expr) : Bool :=
  !(L.length == 2 || L.length == 3) || ((handy nm (lineOf L) L).length != L.length || vs.all (foldedForSure 8))
theorem sw_some {X : Cx} (hX : In S X) {L : List (Str × Pos)} {vs : List Expr} {kt k2 : Nat} {pt pt2 : Pos} (hs : vs.all noStar = true) (h : parSome S.nm L vs = true) : swappedStores [.Tuple (L.map nmE) kt pt] (.Tuple vs k2 pt2) X.env = pure (some (L.map (·.1))) := by
  unfold parSome at h
  rw [Bool.and_eq_true, Bool.and_eq_true, Bool.and_eq_true, Bool.and_eq_true, Bool.and_eq_true] at h
  obtain ⟨h1, h2, h3, h4, h5, h6⟩ := h
  have h3 := of_decide_eq_true h3
  have h4 := of_decide_eq_true h4
  have h2 : vs.length = L.length := by simpa using h2
  have n5 : vs.all (foldedForSure 8) = false := by simpa using h5
  have n6 : vs.all (constantsAlone 8) = false := by simpa using h6
  rw [sw_eq hX hs, h1, h2, h3, h4, n5, n6, List.length_map]
  simp
theorem sw_none {X : Cx} (hX : In S X) {L : List (Str × Pos)} {vs : List Expr} {kt k2 : Nat} {pt pt2 : Pos} (hs : vs.all noStar = true) (h : parNone S.nm L vs = true) : swappedStores [.Tuple (L.map nmE) kt pt] (.Tuple vs k2 pt2) X.env = pure none := by
  unfold parNone at h
  rw [sw_eq hX hs]
  rw [Bool.or_eq_true, Bool.or_eq_true] at h
  rcases h with h | h | h
  · rw [h, Bool.true_or, if_pos rfl]
  · split
    · rfl
    · rw [h, Bool.true_or, if_pos rfl]
  · split
    · rfl
    · split
      · rfl
      · first | rfl | rw [h, if_pos rfl]

/-! ### values, each its owner's -/
def SOs (S : Stat) (es : List Expr) (ps : List PE) : Prop := ∃ ts : List L2.TE, PEs S es ts ∧
  ∀ (R : Addr → Prop) (σ : L2.St) (H : Hp) (ρ : Env) (Fs : List (List Addr)) (ss : List SV) (ρ' : Env) (Q : List V → Hp → Prop), StOk S.K R σ ρ Fs H → evalSVs S.T ps ρ = .ok (ss, ρ') →
    (∀ vs H' Fs' Fr, StOk S.K (GG R Fr.flatten) σ ρ' Fs' H' → OwnL S.K (GG (GG R Fr.flatten) Fs'.flatten) H' vs ss Fr → Fr.flatten.Nodup → (∀ a ∈ Fr.flatten, ¬ R a) → Step S.K Fs.flatten H (Fs'.flatten ++ Fr.flatten) H' → Q vs H') → seqT ts σ H Q
theorem SOs.nil : SOs S [] [] := ⟨[], .nil, fun R σ H ρ Fs ss ρ' Q st ev q => by
  cases ev
  exact q [] H Fs [] (st.lessR fun a z => GG_nil z) .nil List.nodup_nil (fun _ z => (List.not_mem_nil z).elim) (by rw [List.flatten_nil, List.append_nil]; exact Step.refl)⟩
theorem SOs.cons {e : Expr} {es : List Expr} {p : PE} {ps : List PE} (h : SE S e p) (hs : SOs S es ps) : SOs S (e :: es) (p :: ps) := by
  obtain ⟨t, pe, f⟩ := h
  obtain ⟨ts, pes, g⟩ := hs
  refine ⟨t :: ts, .cons pe pes, fun R σ H ρ Fs ss ρ' Q st ev q => ?_⟩
  obtain ⟨⟨⟨k, x⟩, ρ1⟩, e1, ev⟩ := ok_bnd (show (evalE S.T p ρ).bnd _ = _ from ev)
  obtain ⟨⟨ss', ρ2⟩, e2, ev⟩ := ok_bnd (show (evalSVs S.T ps ρ1).bnd _ = _ from ev)
  cases ev
  refine f R σ H ρ Fs k x ρ1 _ st e1 fun v H1 Fs1 F1 ns st1 o1 n1 d1 s1 => ?_
  refine g (GG R F1) σ H1 ρ1 Fs1 ss' ρ' _ st1 e2 fun vs H2 Fs2 Fr st2 o2 n2 d2 s2 => ?_
  have hF1 : ∀ a ∈ F1, H2 a = H1 a := fun a ha => by
    obtain ⟨o, e, _⟩ := Own.foot _ _ _ _ o1 a ha
    rw [e]
    exact s2.keep a o e fun z => st1.dis a z (.inr ha)
  have fr : ∀ a, GG R (F1 :: Fr).flatten a → GG (GG R F1) Fr.flatten a := fun a z => GG_app.mp (by rwa [List.flatten_cons] at z)
  refine q (v :: vs) H2 Fs2 (F1 :: Fr) (st2.lessR fr) (.cons ?_ (o2.pres (Pres.less fun a z => z.imp (fr a) id) fun _ _ => rfl)) ?_ (fun a z => ?_) ?_
  · refine Own.pres ((s2.pres (R' := GG R F1) fun a z => .inl z).trans (Pres.less fun a z => ?_)) _ _ _ _ hF1 o1
    rcases z with z | z
    · rcases fr a z with z | z
      · exact .inl z
      · exact .inr (List.mem_append_right _ z)
    · exact .inr (List.mem_append_left _ z)
  · rw [List.flatten_cons, List.nodup_append]
    exact ⟨n1, n2, fun a ha b hb e => d2 b hb (.inr (e ▸ ha))⟩
  · rw [List.flatten_cons] at z
    exact (List.mem_append.mp z).elim (d1 a) fun z y => d2 a z (.inl y)
  · refine (s1.trans (s2.beside (E := F1))).sub fun a z => ?_
    rw [List.flatten_cons] at z
    rcases List.mem_append.mp z with z | z
    · exact List.mem_append_left _ (List.mem_append_left _ z)
    · rcases List.mem_append.mp z with z | z
      · exact List.mem_append_right _ z
      · exact List.mem_append_left _ (List.mem_append_right _ z)
theorem evalSVs_len {T : Tbl} : ∀ {ps : List PE} {ρ ρ' : Env} {ds : List SV}, evalSVs T ps ρ = .ok (ds, ρ') → ds.length = ps.length
  | [], _, _, _, e => by cases e; rfl
  | p :: ps, _, _, _, e => by
    obtain ⟨⟨r, ρ1⟩, e1, e⟩ := ok_bnd (show (evalE T p _).bnd _ = _ from e)
    obtain ⟨⟨rs', ρ2⟩, e2, e⟩ := ok_bnd (show (evalSVs T ps ρ1).bnd _ = _ from e)
    cases e
    simp only [List.length_cons, evalSVs_len e2]
/-- stores, one after another -/
def setσ (σ : L2.St) : List Nat → List V → L2.St
  | i :: is, v :: vs => setσ (σ.set i (some v)) is vs
  | _, _ => σ
theorem setAll_ok {K : PySem.W.Frag} {R : Addr → Prop} {H : Hp} : ∀ {is : List Nat} {vs : List V} {ss : List SV} {σ : L2.St} {ρ ρ' : Env} {Fs Fr : List (List Addr)}, StOk K (GG R Fr.flatten) σ ρ Fs H → OwnL K (GG (GG R Fr.flatten) Fs.flatten) H vs ss Fr → Fr.flatten.Nodup → (∀ a ∈ Fr.flatten, ¬ R a) → setAll ρ is ss = .ok ρ' →
    ∃ Fs', StOk K R (setσ σ is vs) ρ' Fs' H ∧ (∀ a ∈ Fs'.flatten, a ∈ Fs.flatten ∨ a ∈ Fr.flatten) ∧ Keep is σ (setσ σ is vs)
  | [], _, [], σ, ρ, ρ', Fs, Fr, st, o, n, d, e => by
    cases e
    cases o
    exact ⟨Fs, st.lessR fun a z => .inl z, fun a z => .inl z, Keep.refl⟩
  | i :: is, v :: vs, s :: ss, σ, ρ, ρ', Fs, F :: Fr, st, .cons o or, n, d, e => by
    obtain ⟨ρ1, e1, e⟩ := ok_bnd (show (setS ρ i s).bnd _ = _ from e)
    obtain ⟨hi, rfl⟩ := setS_ok e1
    obtain ⟨k, x⟩ := s
    rw [List.flatten_cons] at n d
    rw [List.nodup_append] at n
    have st1 : StOk K (GG (GG R Fr.flatten) F) σ ρ Fs H := st.lessR fun a z => by
      rw [List.flatten_cons]
      rcases z with (z | z) | z
      · exact .inl z
      · exact .inr (List.mem_append_right _ z)
      · exact .inr (List.mem_append_left _ z)
    have le : ∀ a, GG (GG (GG R Fr.flatten) F) Fs.flatten a → GG (GG R (F :: Fr).flatten) Fs.flatten a := fun a z => by
      rw [List.flatten_cons]
      rcases z with ((z | z) | z) | z
      · exact .inl (.inl z)
      · exact .inl (.inr (List.mem_append_right _ z))
      · exact .inl (.inr (List.mem_append_left _ z))
      · exact .inr z
    have st2 := st1.store hi (v := v) (Own.pres (Pres.less le) _ _ _ _ (fun _ _ => rfl) o) n.1 fun a ha z => z.elim (d a (List.mem_append_left _ ha)) fun z => n.2.2 a ha a z rfl
    have le2 : ∀ a, GG (GG R Fr.flatten) (Fs.set i F).flatten a → GG (GG R (F :: Fr).flatten) Fs.flatten a := fun a z => by
      rw [List.flatten_cons]
      rcases z with (z | z) | z
      · exact .inl (.inl z)
      · exact .inl (.inr (List.mem_append_right _ z))
      · rcases flat_set a z with z | z
        · exact .inl (.inr (List.mem_append_left _ z))
        · exact .inr (flat_less a z)
    obtain ⟨Fs', r1, r2, r3⟩ := setAll_ok st2 (or.pres (Pres.less le2) fun _ _ => rfl) n.2.1 (fun a z => d a (List.mem_append_right _ z)) e
    refine ⟨Fs', r1, fun a z => ?_, fun j hj => ?_⟩
    · rw [List.flatten_cons]
      rcases r2 a z with z | z
      · rcases flat_set a z with z | z
        · exact .inr (List.mem_append_left _ z)
        · exact .inl (flat_less a z)
      · exact .inr (List.mem_append_right _ z)
    · have h1 := r3 j fun z => hj (List.mem_cons_of_mem _ z)
      refine h1.trans ?_
      rw [List.getElem?_set_ne]
      exact fun z => hj (z ▸ List.mem_cons_self)
  | [], _, _ :: _, _, _, _, _, _, _, _, _, _, e => by cases e
  | _ :: _, _, [], _, _, _, _, _, _, _, _, _, e => by cases e
/-- the stores of names -/
def gNs : List Nat → L2.TGs
  | [] => L2.gNil
  | i :: is => L2.gCons (L2.gName i) (gNs is)
theorem gNs_ok : ∀ {is : List Nat} {vs : List V} {σ : L2.St} {H : Hp} {Q : L2.St → Hp → Prop}, is.length = vs.length → Q (setσ σ is vs) H → gNs is vs σ H Q
  | [], [], σ, H, Q, _, q => ⟨rfl, q⟩
  | i :: is, v :: vs, σ, H, Q, h, q => ⟨v, vs, rfl, gNs_ok (Nat.succ.inj h) q⟩
def namesOk (S : Stat) : List (Str × Pos) → List Nat → Bool
  | [], [] => true
  | q :: L, i :: is => S.N[i]? == some q.1 && (tgN S q.1 && namesOk S L is)
  | _, _ => false
theorem namesOk_len : ∀ {L : List (Str × Pos)} {is : List Nat}, namesOk S L is = true → L.length = is.length
  | [], [], _ => rfl
  | _ :: L, _ :: is, h => by
    unfold namesOk at h
    rw [Bool.and_eq_true, Bool.and_eq_true] at h
    simp only [List.length_cons, namesOk_len h.2.2]
  | [], _ :: _, h => by cases h
  | _ :: _, [], h => by cases h
theorem pgs_names {X : Cx} (hX : In S X) (hN : S.N.Nodup) : ∀ {L : List (Str × Pos)} {is : List Nat}, namesOk S L is = true → L2.PGs X (L.map nmE) (gNs is)
  | [], [], _ => L2.pgs_nil
  | q :: L, i :: is, h => by
    unfold namesOk at h
    rw [Bool.and_eq_true, Bool.and_eq_true] at h
    obtain ⟨h1, h2, h3⟩ := h
    have h1 : S.N[i]? = some q.1 := by simpa using h1
    exact L2.pgs_cons (L2.pg_name (by rw [hX.N]; exact hN) (by rw [hX.N]; exact h1) (tg_ok hX h2).1 (tg_ok hX h2).2) (pgs_names hX hN h3) rfl
  | [], _ :: _, h => by cases h
  | _ :: _, [], h => by cases h
theorem allNames : ∀ {L : List (Str × Pos)}, (L.map nmE).all noStar = true
  | [] => rfl
  | _ :: L => by rw [List.map_cons, List.all_cons, allNames]; rfl
theorem ss_par {L : List (Str × Pos)} {is : List Nat} {es : List Expr} {ps : List PE} {kt k2 : Nat} {pt pt2 pos : Pos} (A : SOs S es ps) (hN : S.N.Nodup) (hn : namesOk S L is = true) (n : es.all noStar = true) (hp : parNone S.nm L es = true) (hl : ps.length ≤ 1000) (hll : ps.length = is.length) : SS S (.Assign [.Tuple (L.map nmE) kt pt] (.Tuple es k2 pt2) pos) (.par is ps) := by
  obtain ⟨ts, pes, f⟩ := A
  refine ⟨_, ps_K (w := fun K => L2.tAsg (L2.tTup (taOf ts)) (L2.gTup K L.length (gNs is))) fun X hX => L2.ps_asg (L2.pe_tup (pa_of hX pes n)) (L2.pg_tup hX.calm (pgs_names hX hN hn) (by rw [(assign_len allNames).1, List.length_map]) (assign_len allNames).2) rfl (sw_none hX n hp) rfl, fun R σ H ρ Fs o E st ev af => ?_⟩
  obtain ⟨⟨ss, ρ1⟩, e1, ev⟩ := ok_bnd (show (evalSVs S.T ps ρ).bnd _ = _ from ev)
  obtain ⟨ρ2, e2, ev⟩ := ok_bnd ev
  cases ev
  show taOf ts σ H _
  rw [taOf_eq]
  refine f R σ H ρ Fs ss ρ1 _ st e1 fun vs H1 Fs1 Fr st1 o1 n1 d1 s1 => ?_
  have lv : vs.length = ps.length := o1.len.1.trans (evalSVs_len e1)
  have hs : vs.length ≤ sizeLine := by
    rw [lv]
    exact Nat.le_trans hl (by decide)
  refine ⟨hs, fun p hp => ?_⟩
  obtain ⟨Fs2, st2, le2, k2⟩ := setAll_ok st1 o1 n1 d1 e2
  have sm : Same H1 (upd H1 p (.tup vs)) := same_upd hp
  refine ⟨p, vs, rfl, .inl (.inl upd_same), by rw [lv, hll, ← namesOk_len hn], gNs_ok (by rw [lv, hll]) ?_⟩
  refine af _ _ Fs2 (st2.beside (pres_same sm) (fun a ha => ?_) st2.dis (fun a z => ?_) (st2.len.tup hs)) ((s1.trans (Step.same sm fun a z => .inl z)).sub fun a z => ?_) k2
  · obtain ⟨o, e, _⟩ := st2.slots.foot a ha
    rw [sm a o e, e]
  · obtain ⟨o, e⟩ := st2.rdom a z
    exact ⟨o, sm a o e⟩
  · exact (le2 a z).elim (List.mem_append_left _) (List.mem_append_right _)
theorem ss_par2 {x y : Str} {px py pt pt2 pos : Pos} {i j kt k2 : Nat} {a b : Expr} {ps : List PE} (A : SOs S [a, b] ps) (hN : S.N.Nodup) (hn : namesOk S [(x, px), (y, py)] [i, j] = true) (n : [a, b].all noStar = true) (hp : parSome S.nm [(x, px), (y, py)] [a, b] = true) (hx : S.nm.lookup x = some .local) (hy : S.nm.lookup y = some .local) (hij : i ≠ j) : SS S (.Assign [.Tuple [.Name x px, .Name y py] kt pt] (.Tuple [a, b] k2 pt2) pos) (.par [i, j] ps) := by
  obtain ⟨ts, pes, f⟩ := A
  have hi : S.N[i]? = some x ∧ S.N[j]? = some y := by
    simp only [namesOk, Bool.and_eq_true, beq_iff_eq] at hn
    exact ⟨hn.1, hn.2.2.1⟩
  refine ⟨L2.tPar i j (taOf ts), fun X hX => L2.ps_par hX.calm (by rw [hX.N]; exact hN) (by rw [hX.N]; exact hi.1) (by rw [hX.N]; exact hi.2) hij (by rw [hX.nm]; exact hx) (by rw [hX.nm]; exact hy) (pa_of hX pes n) (sw_some (L := [(x, px), (y, py)]) hX n hp) rfl, fun R σ H ρ Fs o E st ev af => ?_⟩
  obtain ⟨⟨ss, ρ1⟩, e1, ev⟩ := ok_bnd (show (evalSVs S.T ps ρ).bnd _ = _ from ev)
  obtain ⟨ρ2, e2, ev⟩ := ok_bnd ev
  cases ev
  show taOf ts σ H _
  rw [taOf_eq]
  refine f R σ H ρ Fs ss ρ1 _ st e1 fun vs H1 Fs1 Fr st1 o1 n1 d1 s1 => ?_
  obtain ⟨Fs2, st2, le2, k2⟩ := setAll_ok st1 o1 n1 d1 e2
  have hlen : ∀ {is : List Nat} {ss : List SV} {ρ ρ' : Env}, setAll ρ is ss = .ok ρ' → ss.length = is.length := by
    intro is
    induction is with
    | nil => intro ss ρ ρ' h; cases ss <;> first | rfl | cases h
    | cons i is ih => intro ss ρ ρ' h; cases ss with
      | nil => cases h
      | cons s ss =>
        obtain ⟨ρ1, _, h⟩ := ok_bnd (show (setS ρ i s).bnd _ = _ from h)
        simp only [List.length_cons, ih h]
  have lv := o1.len.1.trans (hlen e2)
  match vs, lv with
  | [v, w], _ => exact ⟨v, w, rfl, af _ _ Fs2 st2 (s1.sub fun a z => (le2 a z).elim (List.mem_append_left _) (List.mem_append_right _)) k2⟩
theorem ss_par3 {x y z : Str} {px py pz pt pt2 pos : Pos} {i j l kt k2 : Nat} {a b c : Expr} {ps : List PE} (A : SOs S [a, b, c] ps) (hN : S.N.Nodup) (hn : namesOk S [(x, px), (y, py), (z, pz)] [i, j, l] = true) (n : [a, b, c].all noStar = true) (hp : parSome S.nm [(x, px), (y, py), (z, pz)] [a, b, c] = true) (hx : S.nm.lookup x = some .local) (hy : S.nm.lookup y = some .local) (hz : S.nm.lookup z = some .local) (hij : i ≠ j) (hil : i ≠ l) (hjl : j ≠ l) : SS S (.Assign [.Tuple [.Name x px, .Name y py, .Name z pz] kt pt] (.Tuple [a, b, c] k2 pt2) pos) (.par [i, j, l] ps) := by
  obtain ⟨ts, pes, f⟩ := A
  have hi : S.N[i]? = some x ∧ S.N[j]? = some y ∧ S.N[l]? = some z := by
    simp only [namesOk, Bool.and_eq_true, beq_iff_eq] at hn
    exact ⟨hn.1, hn.2.2.1, hn.2.2.2.2.1⟩
  refine ⟨L2.tPar3 i j l (taOf ts), fun X hX => L2.ps_par3 hX.calm (by rw [hX.N]; exact hN) (by rw [hX.N]; exact hi.1) (by rw [hX.N]; exact hi.2.1) (by rw [hX.N]; exact hi.2.2) hij hil hjl (by rw [hX.nm]; exact hx) (by rw [hX.nm]; exact hy) (by rw [hX.nm]; exact hz) (pa_of hX pes n) (sw_some (L := [(x, px), (y, py), (z, pz)]) hX n hp) rfl, fun R σ H ρ Fs o E st ev af => ?_⟩
  obtain ⟨⟨ss, ρ1⟩, e1, ev⟩ := ok_bnd (show (evalSVs S.T ps ρ).bnd _ = _ from ev)
  obtain ⟨ρ2, e2, ev⟩ := ok_bnd ev
  cases ev
  show taOf ts σ H _
  rw [taOf_eq]
  refine f R σ H ρ Fs ss ρ1 _ st e1 fun vs H1 Fs1 Fr st1 o1 n1 d1 s1 => ?_
  obtain ⟨Fs2, st2, le2, k2⟩ := setAll_ok st1 o1 n1 d1 e2
  have hlen : ∀ {is : List Nat} {ss : List SV} {ρ ρ' : Env}, setAll ρ is ss = .ok ρ' → ss.length = is.length := by
    intro is
    induction is with
    | nil => intro ss ρ ρ' h; cases ss <;> first | rfl | cases h
    | cons i is ih => intro ss ρ ρ' h; cases ss with
      | nil => cases h
      | cons s ss =>
        obtain ⟨ρ1, _, h⟩ := ok_bnd (show (setS ρ i s).bnd _ = _ from h)
        simp only [List.length_cons, ih h]
  have lv := o1.len.1.trans (hlen e2)
  match vs, lv with
  | [v, w, u], _ => exact ⟨v, w, u, rfl, af _ _ Fs2 st2 (s1.sub fun a z => (le2 a z).elim (List.mem_append_left _) (List.mem_append_right _)) k2⟩
end
end PL
end

section
set_option Elab.async false
set_option linter.all false
set_option maxRecDepth 100000
set_option autoImplicit false
/-! SE12: a def's body keeps what the interpreter tells. -/
namespace PL
open PySem PySem.Spec PyProof.Rows
open L2 (V Hp HO upd upd_same upd_ne SqL SqT Rd Same Cx OpR UnR CallR R2 VK Inv EP RelV FnOk Sp Room)

section
variable {K : PySem.W.Frag}
theorem Slots.more {G : Addr → Prop} {H : Hp} {σ : L2.St} {ρ : Env} {Fs : List (List Addr)} (h : Slots K G H σ ρ Fs) (n : Nat) : Slots K G H (σ ++ List.replicate n none) (ρ ++ List.replicate n none) (Fs ++ List.replicate n []) := by
  induction h with
  | nil =>
    simp only [List.nil_append]
    induction n with
    | zero => exact .nil
    | succ n ih => simp only [List.replicate_succ]; exact .non ih
  | non _ ih => exact .non ih
  | som o _ ih => exact .som o ih
theorem flat_more {Fs : List (List Addr)} {n : Nat} : (Fs ++ List.replicate n []).flatten = Fs.flatten := by
  rw [List.flatten_append]
  have : (List.replicate n ([] : List Addr)).flatten = [] := by
    induction n with
    | zero => rfl
    | succ n ih => rw [List.replicate_succ, List.flatten_cons, ih]; rfl
  rw [this, List.append_nil]
theorem StOk.more {R : Addr → Prop} {H : Hp} {σ : L2.St} {ρ : Env} {Fs : List (List Addr)} (h : StOk K R σ ρ Fs H) (n : Nat) : StOk K R (σ ++ List.replicate n none) (ρ ++ List.replicate n none) (Fs ++ List.replicate n []) H := by
  refine ⟨?_, ?_, ?_, h.rdom, h.len⟩
  · rw [flat_more]; exact h.slots.more n
  · rw [flat_more]; exact h.nd
  · rw [flat_more]; exact h.dis
/-- the arguments that are data -/
def ParD (K : PySem.W.Frag) (G : Addr → Prop) (H : Hp) : List V → List SV → Prop
  | v :: vs, s :: ss => (isD s.1 = true → Dat K G H v s.2) ∧ ParD K G H vs ss
  | _, _ => True
theorem OwnL.parD {G : Addr → Prop} {H : Hp} {vs : List V} {ss : List SV} {Fs : List (List Addr)} (h : OwnL K G H vs ss Fs) : ParD K G H vs ss := by
  induction h with
  | nil => trivial
  | @cons v s F vs ss Fs o _ ih =>
    refine ⟨fun hd => ?_, ih⟩
    obtain ⟨k, x⟩ := s
    obtain rfl := isD_eq hd
    cases o with
    | d o => exact o
theorem ParD.pres {G G' : Addr → Prop} {H H' : Hp} (p : Pres K G H G' H') : ∀ {vs : List V} {ss : List SV}, ParD K G H vs ss → ParD K G' H' vs ss
  | _ :: _, _ :: _, h => ⟨fun z => Dat.pres p _ _ (h.1 z), ParD.pres p h.2⟩
  | [], _, _ => trivial
  | _ :: _, [], _ => trivial
def leave1 (k : Kd) (x : D) (ws : List SV) : Option SV → R (List SV)
  | some w => if isD k then .ok ((k, x) :: ws) else .ok (w :: ws)
  | none => if isD k then .ok ((k, x) :: ws) else .no
theorem leave_ok {G : Addr → Prop} {H : Hp} : ∀ {args ws : List SV} {vs : List V} {σ : L2.St} {ρ : Env} {Fs : List (List Addr)}, Slots K G H σ ρ Fs → vs.length = args.length → ParD K G H vs args → (∀ (i : Nat) (s : SV), args[i]? = some s → isD s.1 = false → σ[i]? = vs[i]?.map some) → leave args ρ = .ok ws →
    ∃ Fs', Slots K G H (vs.map some) (ws.map some) Fs' ∧ Fs'.flatten.Sublist Fs.flatten
  | [], ws, [], _, _, Fs, _, _, _, _, e => by
    cases e
    exact ⟨[], .nil, by simp⟩
  | (k, x) :: args, ws, v :: vs, σ, ρ, Fs, sl, hl, pd, ag, e => by
    cases ρ with
    | nil => cases e
    | cons o ρ =>
      obtain ⟨ws', e1, e⟩ := ok_bnd (show (leave args ρ).bnd _ = _ from e)
      have e : leave1 k x ws' o = PL.R.ok ws := by
        cases o <;> exact e
      have rest : ∀ {σ' : L2.St} {Fs'' : List (List Addr)}, Slots K G H σ' ρ Fs'' → (∀ i, σ'[i]? = σ[i + 1]?) → ∃ Fs', Slots K G H (vs.map some) (ws'.map some) Fs' ∧ Fs'.flatten.Sublist Fs''.flatten := fun {σ' Fs''} sl' hh =>
        leave_ok sl' (Nat.succ.inj hl) pd.2 (fun i s hi hd => by rw [hh i, ag (i + 1) s (by simpa using hi) hd]; simp) e1
      cases hk : isD k with
      | true =>
        have e : PL.R.ok ((k, x) :: ws') = PL.R.ok ws := by
          rw [← e]
          cases o <;> simp only [leave1, hk, if_true]
        cases e
        have dv : Dat K G H v x := pd.1 hk
        obtain rfl := isD_eq hk
        cases sl with
        | non sl =>
          obtain ⟨Fs', a, b⟩ := rest sl fun i => by simp
          exact ⟨[] :: Fs', .som (.d dv) a, by simpa using b⟩
        | @som _ _ _ F _ _ _ oo sl =>
          obtain ⟨Fs', a, b⟩ := rest sl fun i => by simp
          exact ⟨[] :: Fs', .som (.d dv) a, by rw [List.flatten_cons, List.flatten_cons, List.nil_append]; exact b.trans (List.sublist_append_right _ _)⟩
      | false =>
        cases sl with
        | non sl => simp only [leave1, hk] at e; cases e
        | @som u k' x' F _ _ _ oo sl =>
          have e : PL.R.ok ((k', x') :: ws') = PL.R.ok ws := by
            rw [← e]
            simp only [leave1, hk]
            rfl
          cases e
          obtain ⟨Fs', a, b⟩ := rest sl fun i => by simp
          have h0 := ag 0 (k, x) rfl hk
          simp only [List.getElem?_cons_zero, Option.map_some, Option.some.injEq] at h0
          subst h0
          exact ⟨F :: Fs', .som oo a, by rw [List.flatten_cons, List.flatten_cons]; exact b.append_left F⟩
  | [], _, _ :: _, _, _, _, _, h, _, _, _ => by cases h
  | _ :: _, _, [], _, _, _, _, h, _, _, _ => by cases h
theorem ownPars_mem : ∀ {args : List SV} {i j : Nat} {s : SV}, args[j]? = some s → isD s.1 = false → i + j ∈ ownPars i args
  | (k, x) :: args, i, 0, s, h, hd => by
    simp only [List.getElem?_cons_zero, Option.some.injEq] at h
    subst h
    simp only [ownPars, hd, Bool.false_eq_true, if_false]
    exact List.mem_cons_self
  | (k, x) :: args, i, j + 1, s, h, hd => by
    have ih := ownPars_mem (args := args) (i := i + 1) (j := j) (s := s) (by simpa using h) hd
    have : i + (j + 1) = i + 1 + j := by omega
    rw [this]
    simp only [ownPars]
    split
    · exact ih
    · exact List.mem_cons_of_mem _ ih
  | [], _, _, _, h, _ => by simp at h
/-- the place of a def's body -/
def bodyS (P : Program) (w : World) (K : PySem.W.Frag) (mg : Str → Option Value) (base : Heap) (A : Around) (N : List Str) (scope : Scope) (T : Tbl) : Stat := ⟨P, w, K, mg, base, A, N, scope.names, T, fun _ => true⟩
theorem runDef_ok {T : Tbl} {p : PDef} {args ws : List SV} {s : SV} (h : runDef T p args = .ok (s, ws)) : args.length = p.np ∧ p.np ≤ p.ns ∧ ((ownPars 0 args).all (fun i => !(tgSs p.body).contains i)) = true ∧
    ∃ o, execSs T p.body (args.map some ++ List.replicate (p.ns - p.np) none) = .ok o ∧ ((∃ ρ, o = .rt s ρ ∧ leave args ρ = .ok ws) ∨ ∃ ρ, o = .nx ρ ∧ s = (.d, .none) ∧ leave args ρ = .ok ws) := by
  unfold runDef at h
  split at h
  · rename_i hc
    obtain ⟨o, e1, h⟩ := ok_bnd (show (execSs T p.body _).bnd _ = _ from h)
    refine ⟨hc.1, hc.2.1, hc.2.2, o, e1, ?_⟩
    cases o with
    | rt v ρ =>
      obtain ⟨ws', e2, h⟩ := ok_bnd (show (leave args ρ).bnd _ = _ from h)
      cases h
      exact .inl ⟨ρ, rfl, e2⟩
    | nx ρ =>
      obtain ⟨ws', e2, h⟩ := ok_bnd (show (leave args ρ).bnd _ = _ from h)
      cases h
      exact .inr ⟨ρ, rfl, rfl, e2⟩
    | bk ρ => cases h
    | ct ρ => cases h
  · cases h
theorem fnOk_def {P : Program} {w : World} {mg : Str → Option Value} {base : Heap} {k : Nat} {f : Addr} {name qual : Str} {params : Arguments} {body : List Stmt} {scope : Scope} {dV kV doc pm cdv ct oc : Value} {an od : Option Addr}
    {osl : Array (Option Value)} {N ps : List Str} {p : PDef} {T : Tbl} (lk : K.lookup f = some ⟨oc, od, .func (PySem.W.fnOf name qual params body scope dV kV doc pm an cdv ct), osl⟩) (hcd : PySem.W.codeIn K cdv qual = true) (F : L2.FnScope N ps scope) (hp : p.np = ps.length) (hn : p.ns = N.length)
    (hb : ∀ A : Around, Room k A → SSs (bodyS P w K mg base A N scope T) body p.body) : FnOk P w K mg base L2.CX0 (k + 1) f (PySem.W.fnOf name qual params body scope dV kV doc pm an cdv ct) ps (spOf K (runDef T p)) := by
  refine L2.fn_of lk hcd F (fun vs H Q E h => ?_) fun A outer s H vs Q E hr h => ?_
  · obtain ⟨R, args, Fs, k, x, ws, st, ev, _⟩ := h
    have h1 := st.lenσ
    rw [List.length_map, List.length_map] at h1
    rw [h1, (runDef_ok ev).1, hp]
  · obtain ⟨R, args, Fs, kx, x, ws, st, ev, q⟩ := h
    obtain ⟨h1, h2, h3, o, e1, h4⟩ := runDef_ok ev
    obtain ⟨t, pss, sem⟩ := hb _ hr
    have lv : vs.length = args.length := by
      have := st.lenσ
      rwa [List.length_map, List.length_map] at this
    refine ⟨t, L2.PSs.nox (pss _ ⟨rfl, rfl, rfl, rfl, rfl, rfl, rfl, rfl, F.kind, rfl, fun _ _ => rfl, rfl⟩), ?_⟩
    have st0 := st.more (p.ns - p.np)
    have es : L2.start N vs = vs.map some ++ List.replicate (p.ns - p.np) none := by
      unfold L2.start
      rw [hn, lv, h1]
    rw [es]
    refine sem R _ H _ _ o _ st0 e1 ?_
    -- what comes back
    have fin : ∀ (ρ : Env) (σ' : L2.St) (H' : Hp) (Fs' : List (List Addr)) (Fr : List Addr) (v : V), leave args ρ = .ok ws → StOk K (GG R Fr) σ' ρ Fs' H' → Own K (GG (GG R Fr) Fs'.flatten) H' kx v x Fr → Fr.Nodup → (∀ a ∈ Fr, ¬ R a) →
        Step K (Fs ++ List.replicate (p.ns - p.np) []).flatten H (Fs'.flatten ++ Fr) H' → Keep (tgSs p.body) (vs.map some ++ List.replicate (p.ns - p.np) none) σ' → Q v H' := fun ρ σ' H' Fs' Fr v el st' o n d step kp => by
      rw [flat_more] at step
      have pr : Pres K (GG R Fs.flatten) H (GG (GG R Fr) Fs'.flatten) H' := (step.pres (R' := R) fun a z => .inl z).trans (Pres.less fun a z => by
        rcases z with (z | z) | z
        · exact .inl z
        · exact .inr (List.mem_append_right _ z)
        · exact .inr (List.mem_append_left _ z))
      obtain ⟨Fs2, sl, sub⟩ := leave_ok st'.slots lv ((OwnL.of st.slots).parD.pres pr) (fun i s hi hd => by
        have hm := ownPars_mem (i := 0) hi hd
        rw [Nat.zero_add] at hm
        have hc := List.all_eq_true.mp h3 i hm
        have hni : i ∉ tgSs p.body := by simpa using hc
        rw [kp i hni]
        have hlt : i < vs.length := by rw [lv]; exact (List.getElem?_eq_some_iff.mp hi).1
        rw [List.getElem?_append_left (by rw [List.length_map]; exact hlt), List.getElem?_map]) el
      have le : ∀ a ∈ Fs2.flatten, a ∈ Fs'.flatten := fun a z => sub.subset z
      refine q v H' Fs2 Fr ⟨sl.pres (Pres.less fun a z => z.imp id (le a)) fun _ _ => rfl, st'.nd.sublist sub, fun a ha => st'.dis a (le a ha), st'.rdom, st'.len⟩ (Own.pres (Pres.less fun a z => z.imp id (le a)) _ _ _ _ (fun _ _ => rfl) o) n d (step.sub fun a z => ?_)
      exact (List.mem_append.mp z).elim (fun z => List.mem_append_left _ (le a z)) (List.mem_append_right _)
    rcases h4 with ⟨ρ, rfl, el⟩ | ⟨ρ, rfl, es', el⟩
    · exact fun v σ' H' Fs' Fr st' o n d step kp => fin ρ σ' H' Fs' Fr v el st' o n d step kp
    · cases es'
      exact fun σ' H' Fs' st' step kp => fin ρ σ' H' Fs' [] .non el (st'.lessR fun a z => GG_nil z) (.d .non) List.nodup_nil (fun _ z => (List.not_mem_nil z).elim) (by rw [List.append_nil]; exact step) kp
end
end PL
end

section
set_option Elab.async false
set_option linter.all false
set_option maxRecDepth 100000
set_option autoImplicit false
/-! SD4: ranges made lists and tuples; sorted. -/
namespace PL
open PySem PySem.Spec PyProof.Rows
open L2 (V Hp HO upd upd_same upd_ne SqL SqT Rd Same Cx OpR UnR CallR R2 VK Inv EP RelV FnOk Sp Room)

section
variable {S : Stat}
theorem rgUp_len {a b : Int} : (rangeUp a b).length = (b - a).toNat := by
  unfold rangeUp
  rw [List.length_map, List.length_range]
def rRg (tp : Bool) (a b : Int) (H : Hp) (Q : VK) : Prop := L2.RgOk a b ∧ ∀ q, H q = none → Q (.ref q) (upd H q (if tp = true then .tup (L2.rgV a b) else .lst (L2.rgV a b)))
theorem rg_res {K : PySem.W.Frag} {G : Addr → Prop} {H : Hp} {tp : Bool} {a b : Int} {k : Kd} {z : D} {Q : VK} (h1 : small a = true) (h2 : small b = true) (h3 : (b - a).toNat ≤ sizeCap) (hl : HLen H) (he : (k, z) = (if tp = true then (Kd.d, PyData.tuple (rangeUp a b)) else (Kd.l .d, PyData.list (rangeUp a b))))
    (q : ∀ u H', Res K G H k z u H' → Q u H') : rRg tp a b H Q := by
  obtain ⟨s1, s2⟩ := small_ok h1
  obtain ⟨s3, s4⟩ := small_ok h2
  have h3' : (b - a).toNat ≤ 2 ^ 24 := Nat.le_trans h3 (by decide)
  have hlen : (L2.rgV a b).length ≤ sizeLine := by rw [L2.rgV_length]; exact Nat.le_trans h3 (by decide)
  refine ⟨⟨s1, s2, s3, s4, h3'⟩, fun p hp => q _ _ ?_⟩
  cases tp with
  | true => cases he; exact Res.tup hl hp (rgV_dat a b) hlen
  | false => cases he; exact Res.lst hl hp (rgV_dat a b) hlen
theorem sem_rg1 {K : PySem.W.Frag} {tp : Bool} : Op1 K (.rangeL tp 1) (fun x H Q => ∃ n, x = .int n ∧ rRg tp 0 n H Q) := fun G H v x k z Q fx hd hl q => by
  cases x <;> simp only [opD, reduceCtorEq] at hd
  rename_i n
  split at hd
  · rename_i hc
    rw [Bool.and_eq_true] at hc
    refine ⟨n, fx.int, rg_res (by decide) hc.1 (by simpa using hc.2) hl ?_ q⟩
    cases tp <;> cases hd <;> rfl
  · cases hd
theorem sem_rg2 {K : PySem.W.Frag} {tp : Bool} : Op2 K (.rangeL tp 2) (fun x y H Q => ∃ a b, x = .int a ∧ y = .int b ∧ rRg tp a b H Q) := fun G H v w x y k z Q fx fy hd hl q => by
  obtain ⟨a, b, rfl, rfl⟩ : ∃ a b, x = .int a ∧ y = .int b := by
    cases x <;> first | cases hd | (cases y <;> first | exact ⟨_, _, rfl, rfl⟩ | cases hd)
  have hd : (if (small a && small b && decide ((b - a).toNat ≤ sizeCap)) = true then mk (if tp = true then .tuple (rangeUp a b) else .list (rangeUp a b)) else .no) = PL.R.ok (k, z) := hd
  split at hd
  · rename_i hc
    rw [Bool.and_eq_true, Bool.and_eq_true] at hc
    refine ⟨a, b, fx.int, fy.int, rg_res hc.1.1 hc.1.2 (by simpa using hc.2) hl ?_ q⟩
    cases tp <;> cases hd <;> rfl
  · cases hd
theorem se_rgT1 {a : Expr} {pa : PE} {p pos p2 pos2 : Pos} (A : SG S a pa) (n : noStar a = true) (hg : glN S.nm "range" = true) (hm : S.mg "range" = none) (hg2 : glN S.nm "tuple" = true) (hm2 : S.mg "tuple" = none) : SE S (.Call (.Name "tuple" p) [.Call (.Name "range" p2) [a] [] pos2] [] pos) (.op (.rangeL true 1) [pa]) :=
  SE.op1 A sem_rg1 fun ta ha => .plain (fun X hX => by
    have pr := L2.prg_1 (p := p2) (pos := pos2) (gl_ok hX hg) (by rw [hX.mg]; exact hm) (ha X hX).1 (star_cons n _ _)
    refine ⟨fun pins s σ H Q I h => (L2.pe_tupRg (p := p) (pos := pos) hX.calm (gl_ok hX hg2) (by rw [hX.mg]; exact hm2) pr rfl).run pins s σ H Q I h⟩) rfl
theorem se_rgL1 {a : Expr} {pa : PE} {p pos p2 pos2 : Pos} (A : SG S a pa) (n : noStar a = true) (hg : glN S.nm "range" = true) (hm : S.mg "range" = none) (hg2 : glN S.nm "list" = true) (hm2 : S.mg "list" = none) : SE S (.Call (.Name "list" p) [.Call (.Name "range" p2) [a] [] pos2] [] pos) (.op (.rangeL false 1) [pa]) :=
  SE.op1 A sem_rg1 fun ta ha => .plain (fun X hX => by
    have pr := L2.prg_1 (p := p2) (pos := pos2) (gl_ok hX hg) (by rw [hX.mg]; exact hm) (ha X hX).1 (star_cons n _ _)
    refine ⟨fun pins s σ H Q I h => (L2.pe_listRg (p := p) (pos := pos) hX.calm (gl_ok hX hg2) (by rw [hX.mg]; exact hm2) pr rfl).run pins s σ H Q I h⟩) rfl
theorem se_rgT2 {a b : Expr} {pa pb : PE} {p pos p2 pos2 : Pos} (A : SG S a pa) (B : SG S b pb) (n : noStar a = true) (n2 : noStar b = true) (hg : glN S.nm "range" = true) (hm : S.mg "range" = none) (hg2 : glN S.nm "tuple" = true) (hm2 : S.mg "tuple" = none) : SE S (.Call (.Name "tuple" p) [.Call (.Name "range" p2) [a, b] [] pos2] [] pos) (.op (.rangeL true 2) [pa, pb]) :=
  SE.op2 A B sem_rg2 fun ta tb ha hb => .plain (fun X hX => by
    have pr := L2.prg_2 (p := p2) (pos := pos2) (gl_ok hX hg) (by rw [hX.mg]; exact hm) (ha X hX).1 (hb X hX).1 (star_cons n _ _) (star_cons n2 _ _) (star_plain (es := [b]) (by simp [n2]))
    exact ⟨fun pins s σ H Q I h => (L2.pe_tupRg (p := p) (pos := pos) hX.calm (gl_ok hX hg2) (by rw [hX.mg]; exact hm2) pr rfl).run pins s σ H Q I h⟩) rfl
theorem se_rgL2 {a b : Expr} {pa pb : PE} {p pos p2 pos2 : Pos} (A : SG S a pa) (B : SG S b pb) (n : noStar a = true) (n2 : noStar b = true) (hg : glN S.nm "range" = true) (hm : S.mg "range" = none) (hg2 : glN S.nm "list" = true) (hm2 : S.mg "list" = none) : SE S (.Call (.Name "list" p) [.Call (.Name "range" p2) [a, b] [] pos2] [] pos) (.op (.rangeL false 2) [pa, pb]) :=
  SE.op2 A B sem_rg2 fun ta tb ha hb => .plain (fun X hX => by
    have pr := L2.prg_2 (p := p2) (pos := pos2) (gl_ok hX hg) (by rw [hX.mg]; exact hm) (ha X hX).1 (hb X hX).1 (star_cons n _ _) (star_cons n2 _ _) (star_plain (es := [b]) (by simp [n2]))
    exact ⟨fun pins s σ H Q I h => (L2.pe_listRg (p := p) (pos := pos) hX.calm (gl_ok hX hg2) (by rw [hX.mg]; exact hm2) pr rfl).run pins s σ H Q I h⟩) rfl
end
end PL
end

section
set_option Elab.async false
set_option linter.all false
set_option maxRecDepth 100000
set_option autoImplicit false
/-! SK: calls with keywords, in the parameters' order. -/
namespace PL
open PySem PySem.Spec PyProof.Rows
open L2 (V Hp HO upd upd_same upd_ne SqL SqT Rd Same Cx OpR UnR CallR R2 VK Inv EP RelV FnOk Sp Room Vals)

def KB (fd : FuncData) (pr ks : List Str) (m : Nat) : Prop := ∀ (s : Shared) (us ws : List Value), us.length = m → ws.length = ks.length → BindsTo s fd ⟨us, ks.zip ws⟩ (pr.zip (us ++ ws))
def gK {α : Type} (m n : Nat) (us ws : List α) : List α := if us.length = m ∧ ws.length = n then us ++ ws else []
theorem kb_of {K : PySem.W.Frag} {fd : FuncData} {pr ks : List Str} {m : Nat} (h : KB fd pr ks m) (hp : 0 < pr.length) : L2.KBinds K fd pr ks (gK m ks.length) (gK m ks.length) where
  to := fun s us ws _ hl => by
    unfold gK at hl ⊢
    split at hl
    · rename_i hc
      rw [if_pos hc]
      exact h s us ws hc.1 hc.2
    · simp only [List.length_nil] at hl
      omega
  rel := fun {vs us zs ws} r rz => by
    have h1 := r.length
    have h2 := rz.length
    unfold gK
    rw [h1, h2]
    split
    · exact r.append rz
    · exact .nil
/-- a def that may be called with these keywords, behind m positional ones -/
def FnFactK (S : Stat) (x : Str) (f m : Nat) (ks : List Str) : Prop := ∃ (a : Addr) (fd : FuncData) (pr : List Str) (k : Nat), S.mg x = some (.ref a) ∧ PySem.W.keepIn S.K (.ref a) = true ∧ KB fd pr ks m ∧ 0 < pr.length ∧
  FnOk S.prog S.w S.K S.mg S.base L2.CX0 k a fd pr (spOf S.K (S.T.f f)) ∧ Room k S.A
section
variable {S : Stat}
theorem FnFactK.at {X : Cx} (hX : In S X) {x : Str} {f m : Nat} {ks : List Str} (h : FnFactK S x f m ks) : ∃ (a : Addr) (fd : FuncData) (pr : List Str) (k : Nat), X.mg x = some (.ref a) ∧ PySem.W.keepIn X.K (.ref a) = true ∧ KB fd pr ks m ∧ 0 < pr.length ∧
    FnOk X.prog X.w X.K X.mg X.base L2.CX0 k a fd pr (spOf S.K (S.T.f f)) ∧ Room k X.A := by
  rw [hX.mg, hX.K, hX.prog, hX.w, hX.base, hX.A]
  exact h
theorem evalAs_app {T : Tbl} {ps2 : List PE} : ∀ {ps1 : List PE} {ρ : Env}, evalAs T (ps1 ++ ps2) ρ = (evalAs T ps1 ρ).bnd fun (r1, ρ1) => (evalAs T ps2 ρ1).bnd fun (r2, ρ2) => .ok (r1 ++ r2, ρ2)
  | [], ρ => by
    show evalAs T ps2 ρ = (evalAs T ps2 ρ).bnd fun (r2, ρ2) => .ok ([] ++ r2, ρ2)
    cases evalAs T ps2 ρ <;> rfl
  | p :: ps1, ρ => by
    rw [List.cons_append, evalAs_cons, evalAs_cons, bnd_assoc]
    congr
    funext ⟨r, ρ1⟩
    show (evalAs T (ps1 ++ ps2) ρ1).bnd _ = ((evalAs T ps1 ρ1).bnd _).bnd _
    rw [evalAs_app, bnd_assoc, bnd_assoc]
    congr
    funext ⟨r1, ρ2⟩
    show ((evalAs T ps2 ρ2).bnd _).bnd _ = (evalAs T ps2 ρ2).bnd _
    cases evalAs T ps2 ρ2 <;> rfl
theorem ArgsR.app {K : PySem.W.Frag} {G : Addr → Prop} {H : Hp} {σ : L2.St} : ∀ {vs : List V} {rs : List (Sum Nat D)} {ws : List V} {rs2 : List (Sum Nat D)}, ArgsR K G H σ vs rs → ArgsR K G H σ ws rs2 → ArgsR K G H σ (vs ++ ws) (rs ++ rs2)
  | [], [], _, _, _, h => h
  | _ :: _, _ :: _, _, _, h1, h2 => ⟨h1.1, ArgsR.app h1.2 h2⟩
  | [], _ :: _, _, _, h, _ => h.elim
  | _ :: _, [], _, _, h, _ => h.elim
theorem ArgsR.steps {K : PySem.W.Frag} {R : Addr → Prop} {F F' : List Addr} {H H' : Hp} {σ : L2.St} (s : Step K F H F' H') : ∀ {vs : List V} {rs : List (Sum Nat D)}, ArgsR K (GG R F) H σ vs rs → ArgsR K (GG R F') H' σ vs rs
  | [], [], h => h
  | _ :: _, _ :: _, h => ⟨h.1.step s, ArgsR.steps s h.2⟩
  | [], _ :: _, h => h.elim
  | _ :: _, [], h => h.elim
def kwv (k : Keyword) : Expr := k.value
theorem pk_of {X : Cx} (hX : In S X) : ∀ {kws : List Keyword} {ts : List L2.TE}, PEs S (kws.map kwv) ts → L2.PK X kws (taOf ts)
  | [], _, .nil => L2.pk_nil
  | ⟨n, e, p⟩ :: kws, _, .cons h t => L2.pk_cons (h X hX).1 (pk_of hX t)
theorem kw_facts {env : PySem.Env} {pos : Pos} : ∀ {kws : List Keyword} {ks : List Str}, kws.map (·.arg) = ks.map some → (backToKw pos (keywordEach kws env)).all (·.1.isSome) = true ∧ (backToKw pos (keywordEach kws env)).filterMap (·.1) = ks ∧ (backToKw pos (keywordEach kws env)).any (·.1.isNone) = false
  | [], [], _ => ⟨rfl, rfl, rfl⟩
  | ⟨n, e, p⟩ :: kws, k :: ks, h => by
    simp only [List.map_cons, List.cons.injEq] at h
    obtain ⟨h1, h2⟩ := h
    obtain ⟨a, b, c⟩ := kw_facts (env := env) (pos := pos) h2
    have h1 : n = some k := h1
    subst h1
    refine ⟨?_, ?_, ?_⟩
    · show (true && _) = true
      rw [Bool.true_and]
      exact a
    · show k :: _ = k :: ks
      congr
    · show (false || _) = false
      rw [Bool.false_or]
      exact c
  | [], _ :: _, h => by cases h
  | _ :: _, [], h => by cases h
/-- f(k = v, ..) -/
theorem pe_callK0 {X : Cx} {k : Nat} {f : Addr} {fd : FuncData} {ps ks : List Str} {sp : Sp} {x : Str} {p pos : Pos} {kws : List Keyword} {tk : L2.TA} {g : List Value → List Value → List Value} {gV : List V → List V → List V} {CX : L2.CXT} {E : L2.XK} (F : FnOk X.prog X.w X.K X.mg X.base CX k f fd ps sp) (hr : Room k X.A) (hg : L2.Gl X x) (hm : X.mg x = some (.ref f)) (hk : PySem.W.keepIn X.K (.ref f) = true) (hb : L2.KBinds X.K fd ps ks g gV) (hx : L2.Passes CX X E)
    (hkw : L2.PK X kws tk) (hall : (backToKw pos (keywordEach kws X.env)).all (·.1.isSome) = true) (hks : (backToKw pos (keywordEach kws X.env)).filterMap (·.1) = ks) (hdb : (x == ("__debug__" : Str)) = false) (hpl : ((backTo pos (starEach [] X.env)).any (·.1) || (backToKw pos (keywordEach kws X.env)).any (·.1.isNone)) = false) :
    L2.PE X (.Call (.Name x p) [] kws pos) (L2.tCallK sp gV E L2.tNil tk) := by
  refine ⟨fun pins s σ H Q I h => ?_⟩
  refine wpAny_Call_Name_kw (L2.ld_glob I hg hm ?_ hdb)
  refine PySem.W.callWith_KW0 (h₀ := X.base) I.ok.mod.kin hk hall ?_ hpl
  refine L2.thn (hkw.run pos pins s σ H _ I h) fun ws s2 ⟨zs, H2, I2, rz, q2⟩ => ⟨I2.kIn, ?_⟩
  rw [hks]
  exact L2.run_fnk (us := []) (vs := []) F hr hb hx I2 .nil rz q2
theorem se_callK {x : Str} {f m : Nat} {ks : List Str} {es : List Expr} {kws : List Keyword} {ps1 ps2 : List PE} {p pos : Pos} (F : FnFactK S x f m ks) (A : SGs S es ps1) (B : SGs S (kws.map kwv) ps2) (hl1 : es.length = ps1.length) (hl2 : (kws.map kwv).length = ps2.length) (hm : es.length = m) (hks : kws.map (·.arg) = ks.map some) (hg : glN S.nm x = true) (n : es.all noStar = true) (hd : (x == ("__debug__" : Str)) = false) : SE S (.Call (.Name x p) es kws pos) (.call f (ps1 ++ ps2)) := by
  obtain ⟨t1, p1, fa⟩ := A
  obtain ⟨t2, p2, fb⟩ := B
  have kl : kws.length = ks.length := by
    have := congrArg List.length hks
    simpa using this
  refine ⟨L2.tCallK (spOf S.K (S.T.f f)) (gK m ks.length) L2.E0 (taOf t1) (taOf t2), .plain (fun X hX => ?_) rfl, fun R σ H ρ Fs k y ρ' Q st ev q => ?_⟩
  · obtain ⟨a, fd, pr, k, h1, h2, h3, h4, h5, h6⟩ := F.at hX
    obtain ⟨q1, q2, q3⟩ := kw_facts (env := X.env) (pos := pos) hks
    cases es with
    | nil =>
      cases p1
      exact pe_callK0 h5 h6 (gl_ok hX hg) h1 h2 (kb_of h3 h4) L2.pass0 (pk_of hX p2) q1 q2 hd (by rw [q3]; rfl)
    | cons e es =>
      have n' := n
      rw [List.all_cons, Bool.and_eq_true] at n'
      exact L2.pe_callK h5 h6 (gl_ok hX hg) h1 h2 (kb_of h3 h4) L2.pass0 (pa_of hX p1 n) (pk_of hX p2) q1 q2 hd (star_cons n'.1 es X.env) (by rw [q3, star_plain n]; rfl)
  · obtain ⟨⟨rs, ρ1⟩, e1, ev⟩ := ok_bnd (show (evalAs S.T (ps1 ++ ps2) ρ).bnd _ = _ from ev)
    obtain ⟨ss, e2, ev⟩ := ok_bnd ev
    by_cases nd : nodupN (ownRefs rs ss) = true
    · have ev : (if nodupN (ownRefs rs ss) = true then (S.T.f f ss).bnd (fun (r, ws) => if noS r.1 = true then PL.R.ok (r, putBack ρ1 rs ss ws) else .no) else .no) = PL.R.ok ((k, y), ρ') := ev
      rw [if_pos nd] at ev
      obtain ⟨⟨⟨k', y'⟩, ws⟩, e3, ev⟩ := ok_bnd ev
      by_cases ns : noS k' = true
      · have ev : (if noS k' = true then PL.R.ok ((k', y'), putBack ρ1 rs ss ws) else .no) = PL.R.ok ((k, y), ρ') := ev
        rw [if_pos ns] at ev
        cases ev
        have l1 : ∀ {es : List Expr} {ts : List L2.TE}, PEs S es ts → es.length = ts.length := by
          intro es ts h
          induction h with
          | nil => rfl
          | cons _ _ ih => simp only [List.length_cons, ih]
        rw [evalAs_app] at e1
        obtain ⟨⟨r1, ρa⟩, e1a, e1⟩ := ok_bnd e1
        obtain ⟨⟨r2, ρb⟩, e1b, e1⟩ := ok_bnd e1
        cases e1
        have lp : ∀ {es : List Expr} {ps : List PE} {ts : List L2.TE}, PEs S es ts → es.length = ts.length := fun h => l1 h
        show taOf t1 σ H _
        rw [taOf_eq]
        refine fa R σ H ρ Fs r1 ρa _ st e1a fun vs H1 Fs1 st1 a1 s1 => ?_
        show taOf t2 σ H1 _
        rw [taOf_eq]
        refine fb R σ H1 ρa Fs1 r2 ρ1 _ st1 e1b fun zs H2 Fs2 st2 a2 s2 => ?_
        have hg : gK m ks.length vs zs = vs ++ zs := by
          unfold gK
          have q1 : vs.length = m := by rw [a1.len, evalAs_len e1a, ← hl1]; exact hm
          have q2 : zs.length = ks.length := by rw [a2.len, evalAs_len e1b, ← hl2, List.length_map]; exact kl
          exact if_pos ⟨q1, q2⟩
        rw [hg]
        exact call_sem (ps := ps1) st2 (ArgsR.app (ArgsR.steps s2 a1) a2) (s1.trans s2) e2 nd e3 ns rfl q
      · have ev : (if noS k' = true then PL.R.ok ((k', y'), putBack ρ1 rs ss ws) else .no) = PL.R.ok ((k, y), ρ') := ev
        rw [if_neg ns] at ev
        cases ev
    · have ev : (if nodupN (ownRefs rs ss) = true then (S.T.f f ss).bnd (fun (r, ws) => if noS r.1 = true then PL.R.ok (r, putBack ρ1 rs ss ws) else .no) else .no) = PL.R.ok ((k, y), ρ') := ev
      rw [if_neg nd] at ev
      cases ev
end
end PL
end

section
set_option Elab.async false
set_option linter.all false
set_option maxRecDepth 100000
set_option autoImplicit false
/-! SD5: sorted, of ints, of tuples of ints of any lengths. -/
namespace PL
open PySem PySem.Spec PyProof.Rows
open L2 (V Hp HO upd upd_same upd_ne SqL SqT Rd Same Cx OpR UnR CallR R2 VK Inv EP RelV FnOk Sp Room Vals)

section
variable {prog : Program} {w : World} {A : Around} {E : Value → Shared → Prop} {s : Shared}
/-- each one's first number, if any -/
theorem firsts_any {h : Heap} : ∀ vs : List Value, (∀ v ∈ vs, ∃ ns, TS.TupInts h v ns) → ∃ fs : List (Option Value), fs.length = vs.length ∧ (∀ f ∈ fs, f = none ∨ ∃ n t, f = some (Value.int n t)) ∧
    ∀ (Q : List (Option Value) → Shared → Prop) (E : Value → Shared → Prop) (s : Shared), s.heap = h → Q fs s → wpAny (model prog w) A (vs.mapM firstOfTuple') Q E s
  | [], _ => ⟨[], rfl, fun _ z => (List.not_mem_nil z).elim, fun Q E s _ q => by rw [List.mapM_nil]; exact wpAny_pure q⟩
  | v :: vs, x => by
    obtain ⟨fs, h1, h2, h3⟩ := firsts_any vs fun u hu => x u (List.mem_cons_of_mem _ hu)
    obtain ⟨ns, ⟨a, xs, rfl, ⟨o, ho, hc, n, hd⟩, i⟩⟩ := x v List.mem_cons_self
    refine ⟨xs[0]? :: fs, by simp [h1], fun f hf => ?_, fun Q E s hs q => ?_⟩
    · rcases List.mem_cons.mp hf with rfl | hf
      · rw [← Array.getElem?_toList]
        generalize xs.toList = l at i
        cases i with
        | nil => exact .inl (by simp)
        | cons m t r => exact .inr ⟨m, t, by simp⟩
      · exact h2 f hf
    · rw [List.mapM_cons]
      refine wpAny_bind ?_
      rw [PySem.W.kas_first_eq]
      subst hs
      refine wpAny_bind (PySem.W.Looks.here (show PySem.W.Looks (model prog w) s.heap (typeOf (.ref a)) o.cls from (PySem.W.Looks.ld ho).andThen .now) ?_)
      rw [hc, if_neg (by first | decide | simp)]
      refine wpAny_bind (listItems_at ho hd (wpAny_pure ?_))
      exact wpAny_bind (h3 (fun bs s' => wpAny (model prog w) A (pure (xs[0]? :: bs)) Q E s') E s rfl (wpAny_pure q))
theorem all_some : ∀ {fs : List (Option Value)}, (∀ f ∈ fs, f = none ∨ ∃ n t, f = some (Value.int n t)) → (fs.toArray.all fun x => x.isSome) = true → ∃ gs : List Value, fs = gs.map some ∧ ∀ g ∈ gs, ∃ n t, g = Value.int n t
  | [], _, _ => ⟨[], rfl, fun _ z => (List.not_mem_nil z).elim⟩
  | f :: fs, h, ha => by
    have ha' : f.isSome = true ∧ (fs.toArray.all fun x => x.isSome) = true := by simpa using ha
    obtain ⟨gs, e, hg⟩ := all_some (fun g hm => h g (List.mem_cons_of_mem _ hm)) ha'.2
    rcases h f List.mem_cons_self with rfl | ⟨n, t, rfl⟩
    · cases ha'.1
    · exact ⟨.int n t :: gs, by rw [e]; rfl, fun g hm => (List.mem_cons.mp hm).elim (fun z => ⟨n, t, z⟩) (hg g)⟩
theorem one_type {T : Value} {vs : List Value} {Q : Option Value → Shared → Prop} (h0 : 0 < vs.length) (hT : ∀ v ∈ vs, PySem.W.Looks (model prog w) s.heap (typeOf v) T) (hT2 : (T == T) = true) (h : Q (some T) s) : wpAny (model prog w) A (oneTypeOnly' vs.toArray) Q E s := by
  obtain ⟨v, r, rfl⟩ : ∃ v r, vs = v :: r := by
    match vs, h0 with
    | v :: r, _ => exact ⟨v, r, rfl⟩
  rw [oneTypeOnly'_eq, List.mapM_toArray, map_eq_pure_bind]
  refine wpAny_bind (wpAny_bind (PySem.W.kas_mapM (r := T) _ (fun v hm Q' hq => (hT v hm).here hq) (wpAny_pure ?_)))
  have ha : ((List.map (fun _ => T) (v :: r)).toArray.all fun x => x == T) = true := by
    simp only [List.all_toArray, List.all_map, List.all_eq_true]
    exact fun _ _ => hT2
  have hz : (List.map (fun _ => T) (v :: r)).toArray[0]? = some T := by simp
  rw [hz]
  simp only [ha, if_true]
  exact wpAny_pure h
theorem kind_any {vs : List Value} (hv : ∀ v ∈ vs, ∃ ns, TS.TupInts s.heap v ns) (h2 : 2 ≤ vs.length) : ∃ κ, (κ = tuples' true ∨ κ = general' ∨ κ = oneType') ∧ ∀ (Q : SortKind → Shared → Prop) (E : Value → Shared → Prop), Q κ s → wpAny (model prog w) A (keyKind' vs.toArray) Q E s := by
  obtain ⟨fs, h1, hf, run⟩ := firsts_any (prog := prog) (w := w) (A := A) vs hv
  have tvs : ∀ v ∈ vs, PySem.W.Looks (model prog w) s.heap (typeOf v) (.type "tuple") := fun v hm => by
    obtain ⟨ns, ⟨a, xs, rfl, ⟨o, ho, hc, n, hd⟩, i⟩⟩ := hv v hm
    rw [← hc]
    exact (PySem.W.Looks.ld ho).andThen .now
  by_cases ha : (fs.toArray.all fun x => x.isSome) = true
  · refine ⟨tuples' true, .inl rfl, fun Q E q => ?_⟩
    obtain ⟨gs, rfl, hg⟩ := all_some hf ha
    rw [PyProof.Rows.kat_kind_eq, List.mapM_toArray, map_eq_pure_bind]
    refine wpAny_bind (wpAny_bind (run _ E s rfl (wpAny_pure ?_)))
    rw [if_pos ha]
    refine wpAny_bind (wpAny_rule ?_)
    have hfm : ((gs.map some).toArray.filterMap id) = gs.toArray := by simp
    rw [hfm]
    refine wpAny_bind (one_type (T := .type "int") (by rw [List.length_map] at h1; omega) (fun v hm => ?_) rfl (wpAny_pure ?_))
    · obtain ⟨n, t, rfl⟩ := hg v hm
      exact PySem.W.Looks.of_pure rfl
    · have e : (Value.type "int" != Value.type "tuple") = true := by decide +kernel
      show Q (tuples' (Value.type "int" != Value.type "tuple")) s
      rw [e]
      exact q
  · by_cases hb : ((fs.toArray[0]?).bind id).isSome = true
    · refine ⟨general', .inr (.inl rfl), fun Q E q => ?_⟩
      rw [PyProof.Rows.kat_kind_eq, List.mapM_toArray, map_eq_pure_bind]
      refine wpAny_bind (wpAny_bind (run _ E s rfl (wpAny_pure ?_)))
      rw [if_neg ha, if_pos hb]
      exact wpAny_pure q
    · refine ⟨oneType', .inr (.inr rfl), fun Q E q => ?_⟩
      rw [PyProof.Rows.kat_kind_eq, List.mapM_toArray, map_eq_pure_bind]
      refine wpAny_bind (wpAny_bind (run _ E s rfl (wpAny_pure ?_)))
      rw [if_neg ha, if_neg hb]
      exact wpAny_bind (one_type (T := .type "tuple") (by omega) tvs rfl (wpAny_pure q))
/-- t < u, however it is asked -/
theorem kat_lex_any {b : Bool} {Q : Bool → Shared → Prop} : ∀ {xs ys : List Value} {ns ms : List Int} (i : Nat), IntsAre xs ns → IntsAre ys ms → ∀ (fin : Bool), (fin = decide (ns.length < ms.length)) → Q (HT.lexLt ns ms) s → PySem.W.KatLex prog w A b fin Q (xs.zip ys) i s
  | _, _, _, _, i, .nil, .nil, fin, hf, h => by
    rw [HT.lexLt_nil_nil] at h
    subst hf
    exact PySem.W.kat_nil h
  | _, _, _, _, i, .nil, .cons c u r, fin, hf, h => by
    rw [HT.lexLt_nil_cons] at h
    subst hf
    refine PySem.W.kat_nil ?_
    simpa using h
  | _, _, _, _, i, .cons a t r, .nil, fin, hf, h => by
    rw [HT.lexLt_cons_nil] at h
    subst hf
    refine PySem.W.kat_nil ?_
    simpa using h
  | _, _, _, _, i, .cons (vs := vs) a t hx, .cons (vs := us) c u hy, fin, hf, h => by
    rw [HT.lexLt_cons] at h
    show PySem.W.KatLex prog w A b fin Q ((Value.int a t, Value.int c u) :: vs.zip us) i s
    refine PySem.W.kat_cons (wpAny_eqBool_int ?_)
    by_cases e : a = c
    · rw [if_pos e] at h
      rw [show (a == c) = true from beq_iff_eq.mpr e]
      exact PySem.W.kat_yes (kat_lex_any (i + 1) hx hy fin (by rw [hf]; simp) h)
    · rw [if_neg e] at h
      rw [show (a == c) = false from beq_eq_false_iff_ne.mpr e]
      exact PySem.W.kat_no (TS.oneLt_ints _ h)
theorem key_lt {κ : SortKind} {v u : Value} {ns ms : List Int} {Q : Bool → Shared → Prop} (hk : κ = tuples' true ∨ κ = general' ∨ κ = oneType') (hu : A.units < cLine) (hv : TS.TupInts s.heap v ns) (hw : TS.TupInts s.heap u ms) (h : Q (HT.lexLt ns ms) s) : wpAny (model prog w) A (keyLt' κ v u) Q E s := by
  obtain ⟨a, xs, rfl, hx, i⟩ := hv
  obtain ⟨b, ys, rfl, hy, j⟩ := hw
  rcases hk with rfl | rfl | rfl
  · obtain ⟨o, ho, hc, n, hd⟩ := hx
    obtain ⟨o', ho', hc', n', hd'⟩ := hy
    refine PySem.W.kat_lt ho hd ho' hd' (kat_lex_any 0 i j _ ?_ h)
    have l1 := i.length
    have l2 := j.length
    rw [Array.length_toList] at l1 l2
    rw [l1, l2]
  · show wpAny (model prog w) A (oneLt' false (.ref a) (.ref b)) Q E s
    exact PySem.W.kat_one _ _ (HT.lt_tupInts hx hy i j hu h)
  · rw [keyLt'_oneType, oneLt'_eq]
    simp only [if_true]
    obtain ⟨⟨cls, dd, data, sl⟩, ho, hc, n, hd⟩ := id hx
    obtain ⟨⟨cls2, dd2, data2, sl2⟩, ho2, hc2, n2, hd2⟩ := id hy
    simp only at hc hd hc2 hd2
    subst hc hd hc2 hd2
    refine wpAny_bind (wpAny_cRoomFor hu ?_)
    refine wpAny_bind (wpAny_callSpecialIfBound?_slot ⟨_, ho, rfl⟩ PySem.F.slot_tuple_lt (call_meets PySem.F.slot_tuple_lt ⟨_, ho, rfl⟩ PySem.F.entry_tuple_lt (PySem.F.args_tuple_lt_2 _ _) (HT.tuple_lt_ints a b xs ys n n2 dd dd2 sl sl2 ns ms i j) ⟨ho, ho2, ?_⟩))
    exact wpAny_truthy_bool h
theorem sortable_any {a : Addr} {vs : List Value} (h2 : 2 ≤ vs.length) (hu : A.units < cLine) (hv : ∀ v ∈ vs, ∃ ns, TS.TupInts s.heap v ns) (ha : ∀ v ∈ vs, v ≠ .ref a) : SrtO.SortableO prog w A s a vs fun v u => HT.lexLt (TS.intsOf s.heap v) (TS.intsOf s.heap u) := by
  intro h' keep
  have kp : ∀ v ∈ vs, ∀ ns, TS.TupInts s.heap v ns → TS.TupInts h' v ns := fun v hm ns ⟨b, xs, e, ⟨o, ho, hc, hd⟩, i⟩ => ⟨b, xs, e, ⟨o, keep b o (fun z => ha v hm (by rw [e, z])) ho, hc, hd⟩, i⟩
  have hv' : ∀ v ∈ vs, ∃ ns, TS.TupInts h' v ns := fun v hm => (hv v hm).imp fun ns z => kp v hm ns z
  obtain ⟨κ, hk, run⟩ := kind_any (prog := prog) (w := w) (A := A) (s := { s with heap := h' }) hv' h2
  refine ⟨κ, run, fun p q hp hq => ?_⟩
  obtain ⟨ns, t1⟩ := hv p.1 hp
  obtain ⟨ms, t2⟩ := hv q.1 hq
  refine key_lt (s := { s with heap := h' }) hk hu (kp _ hp _ t1) (kp _ hq _ t2) ⟨rfl, ?_⟩
  show HT.lexLt ns ms = HT.lexLt (TS.intsOf s.heap p.1) (TS.intsOf s.heap q.1)
  rw [t1.ints, t2.ints]
end

/-! ### lists that are one and the same -/
inductive A2 {α β : Type} (R : α → β → Prop) : List α → List β → Prop
  | nil : A2 R [] []
  | cons {a : α} {b : β} {as : List α} {bs : List β} : R a b → A2 R as bs → A2 R (a :: as) (b :: bs)
section
variable {α β : Type} {R : α → β → Prop}
theorem A2.perm {as as' : List α} (p : as'.Perm as) : ∀ {bs : List β}, A2 R as bs → ∃ bs', bs'.Perm bs ∧ A2 R as' bs' := by
  induction p with
  | nil => intro bs h; exact ⟨bs, List.Perm.refl _, h⟩
  | cons x _ ih =>
    intro bs h
    cases h with
    | cons h1 h2 =>
      obtain ⟨bs', q, r⟩ := ih h2
      exact ⟨_ :: bs', q.cons _, .cons h1 r⟩
  | swap x y l =>
    intro bs h
    cases h with
    | cons h1 h2 => cases h2 with
      | cons h3 h4 => exact ⟨_ :: _ :: _, List.Perm.swap _ _ _, .cons h3 (.cons h1 h4)⟩
  | trans _ _ i1 i2 =>
    intro bs h
    obtain ⟨b1, q1, r1⟩ := i2 h
    obtain ⟨b2, q2, r2⟩ := i1 r1
    exact ⟨b2, q2.trans q1, r2⟩
theorem A2.get {as : List α} {bs : List β} (h : A2 R as bs) : ∀ b ∈ bs, ∃ a ∈ as, R a b := by
  induction h with
  | nil => intro b hb; cases hb
  | cons h1 _ ih =>
    intro b hb
    rcases List.mem_cons.mp hb with rfl | hb
    · exact ⟨_, List.mem_cons_self, h1⟩
    · obtain ⟨a, ha, r⟩ := ih b hb
      exact ⟨a, List.mem_cons_of_mem _ ha, r⟩
theorem A2.left {as : List α} {bs : List β} (h : A2 R as bs) : ∀ a ∈ as, ∃ b ∈ bs, R a b := by
  induction h with
  | nil => intro b hb; cases hb
  | cons h1 _ ih =>
    intro b hb
    rcases List.mem_cons.mp hb with rfl | hb
    · exact ⟨_, List.mem_cons_self, h1⟩
    · obtain ⟨a, ha, r⟩ := ih b hb
      exact ⟨a, List.mem_cons_of_mem _ ha, r⟩
theorem A2.pair {P : α → α → Prop} {P' : β → β → Prop} (hp : ∀ a b a' b', R a b → R a' b' → P a a' → P' b b') {as : List α} {bs : List β} (h : A2 R as bs) (q : as.Pairwise P) : bs.Pairwise P' := by
  induction h with
  | nil => exact .nil
  | cons h1 h2 ih =>
    obtain ⟨q1, q2⟩ := List.pairwise_cons.mp q
    refine List.pairwise_cons.mpr ⟨fun b hb => ?_, ih q2⟩
    obtain ⟨a, ha, r⟩ := h2.get b hb
    exact hp _ _ _ _ h1 r (q1 a ha)
end
theorem sorted_unique {α : Type} {le : α → α → Prop} (anti : ∀ a b, le a b → le b a → a = b) : ∀ {xs ys : List α}, xs.Perm ys → xs.Pairwise le → ys.Pairwise le → xs = ys
  | [], ys, p, _, _ => (List.nil_perm.mp p).symm
  | x :: xs, [], p, _, _ => by simp at p
  | x :: xs, y :: ys, p, hx, hy => by
    obtain ⟨h1, h2⟩ := List.pairwise_cons.mp hx
    obtain ⟨h3, h4⟩ := List.pairwise_cons.mp hy
    have e : x = y := by
      have m1 : x ∈ y :: ys := p.mem_iff.mp List.mem_cons_self
      have m2 : y ∈ x :: xs := p.mem_iff.mpr List.mem_cons_self
      rcases List.mem_cons.mp m1 with e | m1
      · exact e
      · rcases List.mem_cons.mp m2 with e | m2
        · exact e.symm
        · exact anti _ _ (h1 y m2) (h3 x m1)
    subst e
    rw [sorted_unique anti ((List.perm_cons x).mp p) h2 h4]
theorem insInt_perm (x : Int) : ∀ l : List Int, (insInt x l).Perm (x :: l)
  | [] => List.Perm.refl _
  | y :: ys => by
    unfold insInt
    split
    · exact List.Perm.refl _
    · exact ((insInt_perm x ys).cons y).trans (List.Perm.swap x y ys)
theorem sortInts_perm : ∀ l : List Int, (sortInts l).Perm l
  | [] => List.Perm.refl _
  | x :: xs => (insInt_perm x _).trans ((sortInts_perm xs).cons x)
theorem insInt_sorted (x : Int) : ∀ {l : List Int}, l.Pairwise (· ≤ ·) → (insInt x l).Pairwise (· ≤ ·)
  | [], _ => List.pairwise_singleton _ _
  | y :: ys, h => by
    obtain ⟨h1, h2⟩ := List.pairwise_cons.mp h
    unfold insInt
    split
    · rename_i hle
      refine List.pairwise_cons.mpr ⟨fun z hz => ?_, h⟩
      rcases List.mem_cons.mp hz with rfl | hz
      · exact hle
      · exact Int.le_trans hle (h1 z hz)
    · rename_i hle
      refine List.pairwise_cons.mpr ⟨fun z hz => ?_, insInt_sorted x h2⟩
      rcases List.mem_cons.mp ((insInt_perm x ys).mem_iff.mp hz) with rfl | hz
      · omega
      · exact h1 z hz
theorem sortInts_sorted : ∀ l : List Int, (sortInts l).Pairwise (· ≤ ·)
  | [] => .nil
  | x :: xs => insInt_sorted x (sortInts_sorted xs)
theorem insLex_perm (x : List Int) : ∀ l : List (List Int), (insLex x l).Perm (x :: l)
  | [] => List.Perm.refl _
  | y :: ys => by
    unfold insLex
    split
    · exact ((insLex_perm x ys).cons y).trans (List.Perm.swap x y ys)
    · exact List.Perm.refl _
theorem sortLex_perm : ∀ l : List (List Int), (sortLex l).Perm l
  | [] => List.Perm.refl _
  | x :: xs => (insLex_perm x _).trans ((sortLex_perm xs).cons x)
def leL (a b : List Int) : Prop := HT.lexLt b a = false
theorem leL_anti : ∀ a b : List Int, leL a b → leL b a → a = b
  | [], [], _, _ => rfl
  | [], y :: ys, _, h => by unfold leL at h; rw [HT.lexLt_nil_cons] at h; cases h
  | x :: xs, [], h, _ => by unfold leL at h; rw [HT.lexLt_nil_cons] at h; cases h
  | x :: xs, y :: ys, h1, h2 => by
    unfold leL at h1 h2
    rw [HT.lexLt_cons] at h1 h2
    by_cases e : x = y
    · subst e
      rw [if_pos rfl] at h1 h2
      rw [leL_anti xs ys h1 h2]
    · rw [if_neg (Ne.symm e)] at h1
      rw [if_neg e] at h2
      have a := of_decide_eq_false h1
      have b := of_decide_eq_false h2
      omega
theorem insLex_sorted (x : List Int) : ∀ {l : List (List Int)}, l.Pairwise leL → (insLex x l).Pairwise leL
  | [], _ => List.pairwise_singleton _ _
  | y :: ys, h => by
    obtain ⟨h1, h2⟩ := List.pairwise_cons.mp h
    unfold insLex
    split
    · rename_i hle
      rw [lexLt_eq] at hle
      refine List.pairwise_cons.mpr ⟨fun z hz => ?_, insLex_sorted x h2⟩
      rcases List.mem_cons.mp ((insLex_perm x ys).mem_iff.mp hz) with rfl | hz
      · exact NtL.lex_asym _ _ hle
      · exact h1 z hz
    · rename_i hle
      rw [lexLt_eq] at hle
      have hle : HT.lexLt y x = false := by simpa using hle
      refine List.pairwise_cons.mpr ⟨fun z hz => ?_, h⟩
      rcases List.mem_cons.mp hz with rfl | hz
      · exact hle
      · exact NtL.lex_tr x y z hle (h1 z hz)
theorem sortLex_sorted : ∀ l : List (List Int), (sortLex l).Pairwise leL
  | [] => .nil
  | x :: xs => insLex_sorted x (sortLex_sorted xs)

/-! ### sorted -/
/-- x is a tuple of these ints -/
def TupN (K : PySem.W.Frag) (H : Hp) (x : V) (ns : List Int) : Prop := ∃ t, x = .ref t ∧ H t = some (.tup (ns.map V.int))
def rSortX (K : PySem.W.Frag) : List V → Hp → VK → Prop := fun vs H Q => ∃ (a : Addr) (xs : List V) (ts : List (List Int)), vs = [V.ref a] ∧ H a = some (.lst xs) ∧ A2 (TupN K H) xs ts ∧
  ∀ (ys : List V) (p : Addr), A2 (TupN K H) ys (sortLex ts) → ys.length = xs.length → H p = none → Q (.ref p) (upd H p (.lst ys))
theorem tupN_raw {X : Cx} {pins : List (Addr × Obj)} {σ : L2.St} {H : Hp} {s : Shared} (I : Inv X pins σ H s) {K : PySem.W.Frag} {t : Addr} {ns : List Int} (h : H t = some (.tup (ns.map V.int))) : TS.TupInts s.heap (.ref t) ns := L2.tupI_raw I (.inl (.inl h))
theorem cr_sortX {X : Cx} (hu : X.A.units + 65 < cLine) : CallR X (.builtin "sorted") (rSortX X.K) := by
  intro pins s σ H vs us Q I r h
  obtain ⟨a, xs, ts, rfl, ha, hx, q⟩ := h
  obtain ⟨its, rv, hl, hz⟩ := I.list (.inl (.inl ha))
  rw [L2.Vals.ref1 r]
  obtain ⟨e1, e2⟩ := L2.bkV_refs rv fun x m => by
    obtain ⟨ns, _, t, e, _⟩ := hx.left x m
    exact ⟨t, e⟩
  have raw : ∀ v ∈ its, ∃ ns, TS.TupInts s.heap v ns := fun v hv => by
    obtain ⟨t, rfl⟩ := e2 v hv
    have hm : V.ref t ∈ xs := by
      rw [e1]
      exact List.mem_map.mpr ⟨_, hv, rfl⟩
    obtain ⟨ns, _, t', e, ht⟩ := hx.left _ hm
    cases e
    exact ⟨ns, tupN_raw (K := X.K) I ht⟩
  refine SrtO.sorted_ord (NtL.swo_lexL (TS.intsOf s.heap)) hl.isList (by rw [← rv.length]; exact hz) (fun h2 h₁ a' ho keep => ?_) fun out h1 h2 => ?_
  · have raw' : ∀ v ∈ its, ∃ ns, TS.TupInts h₁ v ns := fun v hv => by
      obtain ⟨ns, t⟩ := raw v hv
      exact ⟨ns, t.keeps fun b o e _ => (keep b o e).2⟩
    have hs := sortable_any (prog := X.prog) (w := X.w) (A := X.A.in1.in1) (s := { s with heap := h₁ }) (a := a') h2 (by show X.A.units + 1 + 1 < cLine; omega) raw' fun v hv e => by
      obtain ⟨t, rfl⟩ := e2 v hv
      cases e
      obtain ⟨ns, b, xs', e, ⟨o, ho', _⟩, _⟩ := raw _ hv
      cases e
      exact (keep _ o ho').1 rfl
    have eq : ∀ v ∈ its, TS.intsOf h₁ v = TS.intsOf s.heap v := fun v hv => by
      obtain ⟨ns, t⟩ := raw v hv
      rw [t.ints, (t.keeps (h' := h₁) fun b o e _ => (keep b o e).2).ints]
    intro h' kp
    obtain ⟨κ, run, cmp⟩ := hs h' kp
    refine ⟨κ, run, fun p q' hp hq => ?_⟩
    have := cmp p q' hp hq
    refine wpAny_mono this (fun r s' z => ⟨z.1, ?_⟩) fun _ _ z => z
    rw [z.2]
    show HT.lexLt (TS.intsOf h₁ p.1) (TS.intsOf h₁ q'.1) = HT.lexLt (TS.intsOf s.heap p.1) (TS.intsOf s.heap q'.1)
    rw [eq _ hp, eq _ hq]
  · obtain ⟨ep, he'⟩ := PyProof.Rows.sortedAll_at s.heap its out.toArray
    have h3 : ∀ u ∈ out, ∃ a, u = Value.ref a := fun u hu => e2 u (h2.perm.mem_iff.mp hu)
    have hp : (out.map L2.bkV).Perm xs := by
      rw [e1]
      exact h2.perm.map L2.bkV
    have hlen : (out.map L2.bkV).length ≤ sizeLine := by
      rw [hp.length_eq]
      exact hz
    refine ⟨.ref _, upd H (s.heap.objs.size + 1) (.lst (out.map L2.bkV)), I.laid (t' := s.toks) (fun _ _ => PyProof.Rows.sortedAll_old) (Nat.le_succ _) ⟨hlen, out, ep, L2.bkV_vals h3, he'⟩, rfl, q _ _ ?_ hp.length_eq (I.hok.fresh (Nat.le_succ _))⟩
    obtain ⟨ts', p1, r1⟩ := hx.perm hp
    have pw : (out.map L2.bkV).Pairwise fun x y => ∀ n m, TupN X.K H x n → TupN X.K H y m → HT.lexLt m n = false := by
      rw [List.pairwise_map]
      refine List.Pairwise.imp (fun {u v} huv n m hn hm => ?_) h1
      obtain ⟨t, e, ht⟩ := hn
      obtain ⟨t', e', ht'⟩ := hm
      rw [L2.bkV_ref e, L2.bkV_ref e'] at huv
      have z1 := (tupN_raw (K := X.K) I ht).ints
      have z2 := (tupN_raw (K := X.K) I ht').ints
      have huv : HT.lexLt (TS.intsOf s.heap (.ref t')) (TS.intsOf s.heap (.ref t)) = false := huv
      rw [z1, z2] at huv
      exact huv
    have s1 : ts'.Pairwise leL := r1.pair (fun a b a' b' h h' k => k b b' h h') pw
    rw [sorted_unique leL_anti (p1.trans (sortLex_perm ts).symm) s1 (sortLex_sorted ts)] at r1
    exact r1
def rSrt (K : PySem.W.Frag) : List V → Hp → VK → Prop := fun vs H Q => L2.rSortedI K vs H Q ∨ rSortX K vs H Q
section
variable {K : PySem.W.Frag} {G : Addr → Prop} {H : Hp}
theorem tuplesOf_ok : ∀ {ds : List D} {ts : List (List Int)} {vs : List V}, tuplesOf ds = some ts → DatA K G H vs ds → A2 (TupN K H) vs ts
  | [], ts, _, e, .nil => by cases e; exact .nil
  | .tuple xs :: r, ts, _, e, .cons h1 h2 => by
    unfold tuplesOf at e
    split at e
    · rename_i a b e1 e2
      cases e
      cases h1 with
      | tup hs ha =>
        obtain ⟨rfl, _⟩ := ha.ints e1
        exact .cons ⟨_, rfl, hs⟩ (tuplesOf_ok e2 h2)
    · cases e
theorem ofTups_ok : ∀ {ts : List (List Int)} {vs : List V}, A2 (TupN K H) vs ts → DatA K G H vs (ofTups ts)
  | _, _, .nil => .nil
  | t :: ts, _, .cons ⟨a, e, h⟩ r => by
    subst e
    exact .cons (.tup h ofInts_vs) (ofTups_ok r)
theorem sem_sorted : OpN K .sorted 1 (rSrt K) := .of1 fun G H v x k z Q fx hd hl q => by
  cases x <;> simp only [opD, reduceCtorEq] at hd
  obtain ⟨a, vs, rfl, ha, d⟩ := fx.list
  split at hd
  · rename_i ns e
    cases hd
    obtain ⟨rfl, _⟩ := d.ints e
    refine .inl ⟨a, ns, rfl, L2.SqL.of ha, fun ns' p hp hs hn => ?_⟩
    obtain rfl : ns' = sortInts ns := sorted_unique (fun a b h1 h2 => Int.le_antisymm h1 h2) (hp.trans (sortInts_perm ns).symm) hs (sortInts_sorted ns)
    refine q _ _ (.lst hl hn ofInts_vs ?_)
    have := hl.l ha
    rw [List.length_map] at this ⊢
    rw [(sortInts_perm ns).length_eq]
    exact this
  · split at hd
    · rename_i ts e
      cases hd
      exact .inr ⟨a, vs, ts, rfl, ha, tuplesOf_ok e d, fun ys p hy hlen hn => q _ _ (.lst hl hn (ofTups_ok hy) (by rw [hlen]; exact hl.l ha))⟩
    · cases hd
end
theorem call_srt {X : Cx} (hu : X.A.units + 65 < cLine) : CallR X (.builtin "sorted") (rSrt X.K) := CallR.or L2.cr_sortedI (cr_sortX hu)
end PL
end

section
set_option Elab.async false
set_option linter.all false
set_option maxRecDepth 100000
set_option autoImplicit false
/-! SZ: list(zip(a, b, c)), three lists: the tuples stay, so all but the first are laid anew. -/
namespace PL
open PySem PySem.Spec PyProof.Rows
open L2 (V Hp HO upd upd_same upd_ne SqL SqT Rd Same Cx OpR UnR CallR R2 VK Inv EP RelV FnOk Sp Room Vals)

section
variable {prog : Program} {w : World} {A : Around} {E : Value → Shared → Prop} {s : Shared} {z TI TO T i1 i2 i3 : Addr} {fp1 fp2 fp3 : List Addr} {n1 n2 n3 i : Nat} {P1 P2 P3 : Nat → Value → Prop} {St1 St2 St3 : Nat → Heap → Prop} {f : Bool} {oT : Obj}
theorem zip3_next_held {Q : Value → Shared → Prop} (S : ZipSep3 z TI TO i1 i2 i3 fp1 fp2 fp3) (D1 : Draws prog w A i1 fp1 n1 P1 St1) (D2 : Draws prog w A i2 fp2 n2 P2 St2) (D3 : Draws prog w A i3 fp3 n3 P3 St3)
    (hz : IsZipHeld s.heap z TI TO T f) (hT : s.heap.get? T = some oT) (hTI : IsTupOf3 s.heap TI (.ref i1) (.ref i2) (.ref i3)) (st1 : St1 i s.heap) (st2 : St2 i s.heap) (st3 : St3 i s.heap) (hlt1 : i < n1) (hlt2 : i < n2) (hlt3 : i < n3)
    (hQ : ∀ x1 x2 x3 h' tk, P1 i x1 → P2 i x2 → P3 i x3 → IsZipHeld h' z TI TO T true → St1 (i + 1) h' → St2 (i + 1) h' → St3 (i + 1) h' → IsTupOf3 h' s.heap.objs.size x1 x2 x3 → h'.objs.size = s.heap.objs.size + 1 →
      (∀ c o, c ≠ z → c ≠ i1 → c ≠ i2 → c ≠ i3 → s.heap.get? c = some o → h'.get? c = some o) → Q (.ref s.heap.objs.size) { s with heap := h', toks := tk }) :
    wpAny (model prog w) A (Builtin.«zip.__next__» ⟨[.ref z], []⟩) (fun fin s' => ∃ v, fin = .done (.ret v) ∧ Q v s') E s := by
  obtain ⟨hp, g, d, tk0, os⟩ := s
  show wpAny _ _ (field (.ref z) 2 >>= _) _ _ _
  refine wpAny_bind (wpAny_field hz rfl (x := .bool false) rfl ?_)
  show wpAny _ _ (field (.ref z) 3 >>= _) _ _ _
  refine wpAny_bind (wpAny_field hz rfl (x := .ref TI) rfl ?_)
  refine wpAny_bind (wpAny_seqItems hTI rfl ?_)
  show wpAny _ _ (Builtin.SmallTypes.ownedTupleIsFree (.ref z) >>= _) _ _ _
  refine wpAny_bind (wpAny_tupleHeld_zip hz hT fun g0 hz0 hs0 => ?_)
  replace hs0 : Heap.SameBut z hp g0 := hs0
  simp only [Bool.false_eq_true, if_false]
  refine wpAny_bind ?_
  rw [← Array.forIn_toList]
  simp only [List.forIn_cons, List.forIn_nil]
  refine wpAny_bind (wpAny_bind (wpAny_holding ?_))
  show wpAny _ _ (Builtin.SmallTypes.nextOf (.ref i1) >>= _) _ _ ⟨g0, g, d, tk0, os⟩
  refine wpAny_bind (D1.item i _ _ _ hlt1 (D1.over st1 hs0 S.zf1) fun x1 p1 tk1 hx1 sn1 hp1 => wpAny_pure (wpAny_pure ?_))
  replace hp1 : Heap.SameBut i1 g0 p1 := hp1
  refine wpAny_bind (wpAny_bind (wpAny_holding ?_))
  show wpAny _ _ (Builtin.SmallTypes.nextOf (.ref i2) >>= _) _ _ ⟨p1, g, d, tk1, os⟩
  refine wpAny_bind (D2.item i _ _ _ hlt2 (D2.over (D2.over st2 hs0 S.zf2) hp1 S.sep1_2) fun x2 p2 tk2 hx2 sn2 hp2 => wpAny_pure (wpAny_pure ?_))
  replace hp2 : Heap.SameBut i2 p1 p2 := hp2
  refine wpAny_bind (wpAny_bind (wpAny_holding ?_))
  show wpAny _ _ (Builtin.SmallTypes.nextOf (.ref i3) >>= _) _ _ ⟨p2, g, d, tk2, os⟩
  refine wpAny_bind (D3.item i _ _ _ hlt3 (D3.over (D3.over (D3.over st3 hs0 S.zf3) hp1 S.sep1_3) hp2 S.sep2_3) fun x3 p3 tk3 hx3 sn3 hp3 => wpAny_pure (wpAny_pure (wpAny_pure ?_)))
  replace hp3 : Heap.SameBut i3 p2 p3 := hp3
  show wpAny _ _ (newTuple [x1, x2, x3] >>= _) _ _ ⟨p3, g, d, tk3, os⟩
  refine wpAny_bind (wpAny_newTuple ?_)
  have hsz : p3.objs.size = hp.objs.size := by rw [hp3.1, hp2.1, hp1.1, hs0.1]
  have hzz : IsZipHeld p3 z TI TO T true := hp3.extBut _ _ S.zi3 (hp2.extBut _ _ S.zi2 (hp1.extBut _ _ S.zi1 hz0))
  have hkk : ∀ c o, c ≠ z → c ≠ i1 → c ≠ i2 → c ≠ i3 → hp.get? c = some o → p3.get? c = some o := fun c o cz c1 c2 c3 e => hp3.extBut _ _ c3 (hp2.extBut _ _ c2 (hp1.extBut _ _ c1 (hs0.extBut _ _ cz e)))
  have hj1 : St1 (i + 1) p3 := D1.over (D1.over sn1 hp2 S.sep2_1) hp3 S.sep3_1
  have hj2 : St2 (i + 1) p3 := D2.over sn2 hp3 S.sep3_2
  refine wpAny_pure ⟨_, rfl, ?_⟩
  show Q (.ref p3.objs.size) ⟨p3.push { cls := .type "tuple", data := .seq #[x1, x2, x3] }, g, d, tk3, os⟩
  have up : ∀ c o, p3.get? c = some o → (p3.push { cls := .type "tuple", data := .seq #[x1, x2, x3] }).get? c = some o := fun c o e => Heap.get?_push_of_some _ e
  have hT8 : IsTupOf3 (p3.push { cls := .type "tuple", data := .seq #[x1, x2, x3] }) p3.objs.size x1 x2 x3 := Heap.get?_push_size _ rfl
  have hz8 : (p3.push { cls := .type "tuple", data := .seq #[x1, x2, x3] }).objs.size = p3.objs.size + 1 := Heap.size_push ..
  rw [hsz] at hT8 hz8 ⊢
  exact hQ x1 x2 x3 _ tk3 hx1 hx2 hx3 (up _ _ hzz) (D1.frame _ _ _ hj1 fun b _ o e => up b o e) (D2.frame _ _ _ hj2 fun b _ o e => up b o e) (D3.frame _ _ _ sn3 fun b _ o e => up b o e) hT8 hz8 fun c o cz c1 c2 c3 e => up c o (hkk c o cz c1 c2 c3 e)
theorem zip3_end_held {Q : Fin → Shared → Prop} (S : ZipSep3 z TI TO i1 i2 i3 fp1 fp2 fp3) (D1 : Draws prog w A i1 fp1 n1 P1 St1) (D2 : Draws prog w A i2 fp2 n2 P2 St2) (D3 : Draws prog w A i3 fp3 n3 P3 St3)
    (hz : IsZipHeld s.heap z TI TO T f) (hT : s.heap.get? T = some oT) (hTI : IsTupOf3 s.heap TI (.ref i1) (.ref i2) (.ref i3)) (st1 : St1 i s.heap) (st2 : St2 i s.heap) (st3 : St3 i s.heap) (hle1 : i ≤ n1) (hle2 : i ≤ n2) (hle3 : i ≤ n3) (hend : i = n1 ∨ i = n2 ∨ i = n3)
    (hE : ∀ h' tk e, (∀ c o, c ≠ z → c ≠ i1 → c ≠ i2 → c ≠ i3 → s.heap.get? c = some o → h'.get? c = some o) → (∃ o, h'.get? e = some o ∧ o.cls = .type "StopIteration") → E (.ref e) { s with heap := h', toks := tk }) :
    wpAny (model prog w) A (Builtin.«zip.__next__» ⟨[.ref z], []⟩) Q E s := by
  obtain ⟨hp, g, d, tk0, os⟩ := s
  show wpAny _ _ (field (.ref z) 2 >>= _) _ _ _
  refine wpAny_bind (wpAny_field hz rfl (x := .bool false) rfl ?_)
  show wpAny _ _ (field (.ref z) 3 >>= _) _ _ _
  refine wpAny_bind (wpAny_field hz rfl (x := .ref TI) rfl ?_)
  refine wpAny_bind (wpAny_seqItems hTI rfl ?_)
  show wpAny _ _ (Builtin.SmallTypes.ownedTupleIsFree (.ref z) >>= _) _ _ _
  refine wpAny_bind (wpAny_tupleHeld_zip hz hT fun g0 hz0 hs0 => ?_)
  replace hs0 : Heap.SameBut z hp g0 := hs0
  simp only [Bool.false_eq_true, if_false]
  refine wpAny_bind ?_
  rw [← Array.forIn_toList]
  simp only [List.forIn_cons, List.forIn_nil]
  refine wpAny_bind (wpAny_bind (wpAny_holding ?_))
  show wpAny _ _ (Builtin.SmallTypes.nextOf (.ref i1) >>= _) _ _ ⟨g0, g, d, tk0, os⟩
  by_cases hlt1 : i < n1
  · refine wpAny_bind (D1.item i _ _ _ hlt1 (D1.over st1 hs0 S.zf1) fun x1 p1 tk1 hx1 sn1 hp1 => wpAny_pure (wpAny_pure ?_))
    replace hp1 : Heap.SameBut i1 g0 p1 := hp1
    refine wpAny_bind (wpAny_bind (wpAny_holding ?_))
    show wpAny _ _ (Builtin.SmallTypes.nextOf (.ref i2) >>= _) _ _ ⟨p1, g, d, tk1, os⟩
    by_cases hlt2 : i < n2
    · refine wpAny_bind (D2.item i _ _ _ hlt2 (D2.over (D2.over st2 hs0 S.zf2) hp1 S.sep1_2) fun x2 p2 tk2 hx2 sn2 hp2 => wpAny_pure (wpAny_pure ?_))
      replace hp2 : Heap.SameBut i2 p1 p2 := hp2
      have hi3 : i = n3 := by omega
      refine wpAny_bind (wpAny_bind (wpAny_holding ?_))
      show wpAny _ _ (Builtin.SmallTypes.nextOf (.ref i3) >>= _) _ _ ⟨p2, g, d, tk2, os⟩
      refine wpAny_bind (D3.done ⟨p2, g, d, tk2, os⟩ _ _ (by rw [← hi3]; exact D3.over (D3.over (D3.over st3 hs0 S.zf3) hp1 S.sep1_3) hp2 S.sep2_3) fun q e hq he => ?_)
      replace hq : Heap.ExtBut i3 p2 q := hq
      exact hE q tk2 e (fun c o cz c1 c2 c3 x => hq _ _ c3 (hp2.extBut _ _ c2 (hp1.extBut _ _ c1 (hs0.extBut _ _ cz x)))) he
    · have hi2 : i = n2 := by omega
      refine wpAny_bind (D2.done ⟨p1, g, d, tk1, os⟩ _ _ (by rw [← hi2]; exact D2.over (D2.over st2 hs0 S.zf2) hp1 S.sep1_2) fun q e hq he => ?_)
      replace hq : Heap.ExtBut i2 p1 q := hq
      exact hE q tk1 e (fun c o cz c1 c2 c3 x => hq _ _ c2 (hp1.extBut _ _ c1 (hs0.extBut _ _ cz x))) he
  · have hi1 : i = n1 := by omega
    refine wpAny_bind (D1.done ⟨g0, g, d, tk0, os⟩ _ _ (by rw [← hi1]; exact D1.over st1 hs0 S.zf1) fun q e hq he => ?_)
    replace hq : Heap.ExtBut i1 g0 q := hq
    exact hE q tk0 e (fun c o cz c1 c2 c3 x => hq _ _ c1 (hs0.extBut _ _ cz x)) he
end
section
variable {prog : Program} {w : World} {A : Around} {E : Value → Shared → Prop} {s : Shared} {z TI TO i1 i2 i3 : Addr} {fp1 fp2 fp3 : List Addr} {n1 n2 n3 i : Nat} {P1 P2 P3 : Nat → Value → Prop} {St1 St2 St3 : Nat → Heap → Prop}
/-- the zip object between two turns: its tuple is free, or still out at a T that stands -/
def ZS (h : Heap) (z TI TO i1 i2 i3 : Addr) : Prop := IsTupOf3 h TI (.ref i1) (.ref i2) (.ref i3) ∧ (∃ a1 a2 a3, IsTupOf3 h TO a1 a2 a3) ∧
  (IsZip h z TI TO .none ∨ ∃ T f oT, IsZipHeld h z TI TO T f ∧ h.get? T = some oT ∧ T ≠ z ∧ T ≠ TO ∧ T ≠ i1 ∧ T ≠ i2 ∧ T ≠ i3)
theorem ZS.type (h : ZS s.heap z TI TO i1 i2 i3) : s.TypeIs (.ref z) "zip" := by
  rcases h.2.2 with h | ⟨T, f, oT, h, _⟩
  · exact ⟨_, h, rfl⟩
  · exact ⟨_, h, rfl⟩
theorem zip3_item {Q : Option Value → Shared → Prop} (S : ZipSep3 z TI TO i1 i2 i3 fp1 fp2 fp3) (D1 : Draws prog w A.in1 i1 fp1 n1 P1 St1) (D2 : Draws prog w A.in1 i2 fp2 n2 P2 St2) (D3 : Draws prog w A.in1 i3 fp3 n3 P3 St3)
    (hz : ZS s.heap z TI TO i1 i2 i3) (st1 : St1 i s.heap) (st2 : St2 i s.heap) (st3 : St3 i s.heap) (hlt1 : i < n1) (hlt2 : i < n2) (hlt3 : i < n3)
    (hQ : ∀ x1 x2 x3 h' tk, P1 i x1 → P2 i x2 → P3 i x3 → ZS h' z TI TO i1 i2 i3 → St1 (i + 1) h' → St2 (i + 1) h' → St3 (i + 1) h' → IsTupOf3 h' s.heap.objs.size x1 x2 x3 →
      (∀ c o, c ≠ z → c ≠ TO → c ≠ i1 → c ≠ i2 → c ≠ i3 → s.heap.get? c = some o → h'.get? c = some o) → Q (some (.ref s.heap.objs.size)) { s with heap := h', toks := tk }) :
    wpAny (model prog w) A (pyNext (.ref z)) Q E s := by
  have hTy := hz.type
  obtain ⟨hTI, ⟨a1, a2, a3, hTO⟩, hh⟩ := hz
  have lt : ∀ {c o}, s.heap.get? c = some o → s.heap.objs.size ≠ c := fun e => Nat.ne_of_gt (Heap.lt_size e)
  have l1 : s.heap.objs.size ≠ i1 := by obtain ⟨_, e⟩ := D1.live _ _ st1; exact lt e
  have l2 : s.heap.objs.size ≠ i2 := by obtain ⟨_, e⟩ := D2.live _ _ st2; exact lt e
  have l3 : s.heap.objs.size ≠ i3 := by obtain ⟨_, e⟩ := D3.live _ _ st3; exact lt e
  rcases hh with hz | ⟨T, f, oT, hz, hT, t1, t2, t3, t4, t5⟩
  · refine wpAny_pyNext_zipD3_item S D1 D2 D3 hz hTI hTO st1 st2 st3 hlt1 hlt2 hlt3 fun x1 x2 x3 h' tk y1 y2 y3 b1 b2 d1 d2 d3 b5 b6 hk => ?_
    refine hQ x1 x2 x3 h' tk y1 y2 y3 ⟨hk _ _ S.TIz S.TITO S.TIi1 S.TIi2 S.TIi3 hTI, ⟨_, _, _, b2⟩, .inr ⟨_, false, _, b1, b5, lt hz, lt hTO, l1, l2, l3⟩⟩ d1 d2 d3 b5 hk
  · unfold pyNext
    refine wpAny_bind (wpAny_attempt (wpAny_callSpecial?_slot (name := Str.ofString "__next__") hTy F.slot_zip_next
      (wpAny_call_entry F.slot_zip_next hTy F.entry_zip_next
        (zip3_next_held S D1 D2 D3 hz hT hTI st1 st2 st3 hlt1 hlt2 hlt3 fun x1 x2 x3 h' tk y1 y2 y3 b1 d1 d2 d3 b5 b6 hk => wpAny_pure ?_) (F.args_zip_next_1 _))))
    exact hQ x1 x2 x3 h' tk y1 y2 y3 ⟨hk _ _ S.TIz S.TIi1 S.TIi2 S.TIi3 hTI, ⟨_, _, _, hk _ _ S.TOz S.Ti1 S.Ti2 S.Ti3 hTO⟩, .inr ⟨T, true, oT, b1, hk _ _ t1 t3 t4 t5 hT, t1, t2, t3, t4, t5⟩⟩ d1 d2 d3 b5 fun c o cz _ c1 c2 c3 e => hk c o cz c1 c2 c3 e
theorem zip3_end {Q : Option Value → Shared → Prop} (S : ZipSep3 z TI TO i1 i2 i3 fp1 fp2 fp3) (D1 : Draws prog w A.in1 i1 fp1 n1 P1 St1) (D2 : Draws prog w A.in1 i2 fp2 n2 P2 St2) (D3 : Draws prog w A.in1 i3 fp3 n3 P3 St3)
    (hz : ZS s.heap z TI TO i1 i2 i3) (st1 : St1 i s.heap) (st2 : St2 i s.heap) (st3 : St3 i s.heap) (hle1 : i ≤ n1) (hle2 : i ≤ n2) (hle3 : i ≤ n3) (hend : i = n1 ∨ i = n2 ∨ i = n3)
    (hQ : ∀ h' tk, (∀ c o, c ≠ z → c ≠ TO → c ≠ i1 → c ≠ i2 → c ≠ i3 → s.heap.get? c = some o → h'.get? c = some o) → Q none { s with heap := h', toks := tk }) : wpAny (model prog w) A (pyNext (.ref z)) Q E s := by
  have hTy := hz.type
  obtain ⟨hTI, ⟨a1, a2, a3, hTO⟩, hh⟩ := hz
  rcases hh with hz | ⟨T, f, oT, hz, hT, t1, t2, t3, t4, t5⟩
  · exact wpAny_pyNext_zipD3_end S D1 D2 D3 hz hTI hTO st1 st2 st3 hle1 hle2 hle3 hend hQ
  · unfold pyNext
    refine wpAny_bind (wpAny_attempt (wpAny_callSpecial?_slot (name := Str.ofString "__next__") hTy F.slot_zip_next
      (wpAny_call_entry F.slot_zip_next hTy F.entry_zip_next (zip3_end_held S D1 D2 D3 hz hT hTI st1 st2 st3 hle1 hle2 hle3 hend fun h' tk e hk he => ?_) (F.args_zip_next_1 _))))
    obtain ⟨o, ho, hc⟩ := he
    refine wpAny_bind (wpAny_isInstance (T := "StopIteration") (b := true) ⟨o, ho, hc⟩ isSubtype_stop ?_)
    exact wpAny_pure (hQ _ _ fun c o cz _ c1 c2 c3 e => hk c o cz c1 c2 c3 e)
end
end PL
end

section
set_option Elab.async false
set_option linter.all false
set_option maxRecDepth 100000
set_option autoImplicit false
/-! SZ2: list(zip(a, b, c)): the loop, the call, the rule. -/
namespace PL
open PySem PySem.Spec PyProof.Rows
open L2 (V Hp HO upd upd_same upd_ne SqL SqT Rd Same Cx OpR UnR CallR R2 VK Inv EP RelV FnOk Sp Room Vals FpOk)

/-- tuples of three, made of what stands side by side -/
def Trip (H : Hp) (xs ys zs : List V) (ts : List V) : Prop := ∀ (i : Nat) (t : V), ts[i]? = some t → ∃ T x y z, t = .ref T ∧ H T = some (.tup [x, y, z]) ∧ xs[i]? = some x ∧ ys[i]? = some y ∧ zs[i]? = some z
/-- the heap has grown by such tuples; the list at L is another -/
def Grown (H : Hp) (L : Addr) (H' : Hp) : Prop := ∀ b, b ≠ L → H' b = H b ∨ (H b = none ∧ ∃ x y z, H' b = some (.tup [x, y, z]))
theorem Grown.refl {H : Hp} {L : Addr} : Grown H L H := fun _ _ => .inl rfl
theorem Grown.trans {H H1 H2 : Hp} {L : Addr} (a : Grown H L H1) (b : Grown H1 L H2) : Grown H L H2 := fun c hc => by
  rcases b c hc with e | ⟨n, e⟩
  · rcases a c hc with e' | ⟨n', x, y, z, e'⟩
    · exact .inl (e.trans e')
    · exact .inr ⟨n', x, y, z, e.trans e'⟩
  · rcases a c hc with e' | ⟨n', _, _, _, e'⟩
    · exact .inr ⟨e'.symm.trans n, e⟩
    · rw [n] at e'; cases e'
theorem Grown.keep {H H' : Hp} {L : Addr} (a : Grown H L H') {b : Addr} {o : HO} (hb : b ≠ L) (e : H b = some o) : H' b = some o := by
  rcases a b hb with h | ⟨n, _⟩
  · rw [h, e]
  · rw [n] at e; cases e
section
variable {X : Cx} {pins : List (Addr × Obj)} {σ : L2.St} {z TI TO i1 i2 i3 a b c L : Addr} {xs ys zs : List V} {n : Nat} {R : Result → Shared → Prop} {A : Around} {res : Value}
theorem z3_loop (hh : A.handled = none) (fa : a ≠ i1) (fb : b ≠ i2) (fc : c ≠ i3) (S : ZipSep3 z TI TO i1 i2 i3 [i1, a] [i2, b] [i3, c]) (hL : L ≠ z ∧ L ≠ TI ∧ L ≠ TO ∧ L ≠ i1 ∧ L ≠ i2 ∧ L ≠ i3) (hLa : L ≠ a ∧ L ≠ b ∧ L ≠ c) (hn : n = min (min xs.length ys.length) zs.length) (hnz : n ≤ sizeLine) :
    ∀ (k i : Nat) (s : Shared) (H : Hp) (ts : List V), n - i = k → i ≤ n → Inv X pins σ H s → ZS s.heap z TI TO i1 i2 i3 → s.heap.IsListIter i1 a i → s.heap.IsListIter i2 b i → s.heap.IsListIter i3 c i →
      (∀ d ∈ [z, TO, i1, i2, i3], FpOk X pins H d) → H L = some (.lst ts) → ts.length = i → H a = some (.lst xs) → H b = some (.lst ys) → H c = some (.lst zs) → Trip H xs ys zs ts →
      (∀ s' H' ts', Inv X pins σ H' s' → H' L = some (.lst ts') → ts'.length = n → Trip H' xs ys zs ts' → Grown H L H' → R (.ok (.ret res)) s') →
      codeAny (model X.prog X.w) A (.builtin "list.extend.loop" ⟨[.ref L, .ref z, res], []⟩) R s := by
  intro k
  induction k with
  | zero =>
    intro i s H ts hk hi I hz h1 h2 h3 hf hHL hlen ha hb hc ht hR
    obtain rfl : i = n := by omega
    obtain ⟨ia, ra, pa, _⟩ := I.list (.inl (.inl ha))
    obtain ⟨ib, rb, pb, _⟩ := I.list (.inl (.inl hb))
    obtain ⟨ic, rc, pc, _⟩ := I.list (.inl (.inl hc))
    have la := ra.length
    have lb := rb.length
    have lc := rc.length
    refine codeAny_builtin F.entry_extend_loop ?_
    rw [Around.under_plainId F.plain_extend_loop _]
    show wpAny _ A.in1 (pyNext (.ref z) >>= _) _ _ s
    refine wpAny_bind (zip3_end S (Draws.list (A := A.in1.in1) hh i1 a fa ia.toArray) (Draws.list (A := A.in1.in1) hh i2 b fb ib.toArray) (Draws.list (A := A.in1.in1) hh i3 c fc ic.toArray) hz ⟨h1, pa.isList⟩ ⟨h2, pb.isList⟩ ⟨h3, pc.isList⟩ (by simp; omega) (by simp; omega) (by simp; omega) (by simp; omega) fun h' tk hkk => ?_)
    refine wpAny_pure (hR _ H ts (I.turnedL (t' := tk) (ch := [z, TO, i1, i2, i3]) (fun d o hd e => hkk d o (fun q => hd (by simp [q])) (fun q => hd (by simp [q])) (fun q => hd (by simp [q])) (fun q => hd (by simp [q])) (fun q => hd (by simp [q])) e) hf) hHL hlen ht .refl)
  | succ k ih =>
    intro i s H ts hk hi I hz h1 h2 h3 hf hHL hlen ha hb hc ht hR
    have hlt : i < n := by omega
    obtain ⟨ia, ra, pa, _⟩ := I.list (.inl (.inl ha))
    obtain ⟨ib, rb, pb, _⟩ := I.list (.inl (.inl hb))
    obtain ⟨ic, rc, pc, _⟩ := I.list (.inl (.inl hc))
    have la := ra.length
    have lb := rb.length
    have lc := rc.length
    refine codeAny_builtin F.entry_extend_loop ?_
    rw [Around.under_plainId F.plain_extend_loop _]
    show wpAny _ A.in1 (pyNext (.ref z) >>= _) _ _ s
    refine wpAny_bind (zip3_item S (Draws.list (A := A.in1.in1) hh i1 a fa ia.toArray) (Draws.list (A := A.in1.in1) hh i2 b fb ib.toArray) (Draws.list (A := A.in1.in1) hh i3 c fc ic.toArray) hz ⟨h1, pa.isList⟩ ⟨h2, pb.isList⟩ ⟨h3, pc.isList⟩ (by simp; omega) (by simp; omega) (by simp; omega) fun u1 u2 u3 h' tk p1 p2 p3 hz' g1 g2 g3 hT hkk => ?_)
    obtain ⟨x, hx⟩ : ∃ x, xs[i]? = some x := ⟨xs[i], List.getElem?_eq_getElem (by omega)⟩
    obtain ⟨y, hy⟩ : ∃ y, ys[i]? = some y := ⟨ys[i], List.getElem?_eq_getElem (by omega)⟩
    obtain ⟨w, hw⟩ : ∃ w, zs[i]? = some w := ⟨zs[i], List.getElem?_eq_getElem (by omega)⟩
    obtain ⟨v1, e1, r1⟩ := ra.get hx
    obtain ⟨v2, e2, r2⟩ := rb.get hy
    obtain ⟨v3, e3, r3⟩ := rc.get hw
    have q1 : u1 = v1 := by
      have : ia.toArray[i]? = some u1 := p1
      rw [List.getElem?_toArray, e1] at this
      exact (Option.some.inj this).symm
    have q2 : u2 = v2 := by
      have : ib.toArray[i]? = some u2 := p2
      rw [List.getElem?_toArray, e2] at this
      exact (Option.some.inj this).symm
    have q3 : u3 = v3 := by
      have : ic.toArray[i]? = some u3 := p3
      rw [List.getElem?_toArray, e3] at this
      exact (Option.some.inj this).symm
    subst q1 q2 q3
    have hTn : H s.heap.objs.size = none := I.hok.fresh (Nat.le_refl _)
    have new : L2.ObjOk X.prog X.w (upd H s.heap.objs.size (.tup [x, y, w])) h' s.heap.objs.size (.tup [x, y, w]) :=
      ⟨by show 3 ≤ sizeLine; decide, [u1, u2, u3], .cons r1 (.cons r2 (.cons r3 .nil)), ⟨_, hT, rfl, _, rfl⟩⟩
    have I1 : Inv X pins σ (upd H s.heap.objs.size (.tup [x, y, w])) { s with heap := h', toks := tk } :=
      I.turnedNew (t' := tk) (ch := [z, TO, i1, i2, i3]) (fun d o hd e => hkk d o (fun q => hd (by simp [q])) (fun q => hd (by simp [q])) (fun q => hd (by simp [q])) (fun q => hd (by simp [q])) (fun q => hd (by simp [q])) e) hf (Nat.le_refl _) new
    have old : ∀ {d : Addr} {o : HO}, H d = some o → upd H s.heap.objs.size (.tup [x, y, w]) d = some o := fun e => by
      rw [upd_ne (L2.ne_of_none e hTn)]; exact e
    obtain ⟨its, m, rl, el, hzl⟩ := I1.lst (old hHL)
    have ll := rl.length
    show wpAny _ A.in1 (updateSeq L (·.push (.ref s.heap.objs.size)) >>= _) _ _ { s with heap := h', toks := tk }
    refine wpAny_bind (wpAny_updateSeq (s := { s with heap := h', toks := tk }) el rfl ?_ (by simp; omega) (by simp; omega))
    have I2 : Inv X pins σ (upd (upd H s.heap.objs.size (.tup [x, y, w])) L (.lst (ts ++ [.ref s.heap.objs.size]))) { s with heap := h'.update L (Obj.mapSeq (·.push (.ref s.heap.objs.size))), toks := tk } :=
      I1.lset (its' := its ++ [.ref s.heap.objs.size]) (old hHL) el (by simp) (rl.append (.cons (show L2.RelV (V.ref s.heap.objs.size) (Value.ref s.heap.objs.size) from rfl) .nil)) (by rw [List.length_append, List.length_singleton]; omega)
    have oth : ∀ {d : Addr} {o : Obj}, d ≠ L → h'.get? d = some o → (h'.update L (Obj.mapSeq (·.push (.ref s.heap.objs.size)))).get? d = some o := fun hd e => (Heap.get?_update_other _ _ (Ne.symm hd)).trans e
    have old2 : ∀ {d : Addr} {o : HO}, d ≠ L → H d = some o → upd (upd H s.heap.objs.size (.tup [x, y, w])) L (.lst (ts ++ [.ref s.heap.objs.size])) d = some o := fun hd e => by
      rw [upd_ne hd]; exact old e
    have hTL : s.heap.objs.size ≠ L := fun e => by rw [e, hHL] at hTn; cases hTn
    have gr : Grown H L (upd (upd H s.heap.objs.size (.tup [x, y, w])) L (.lst (ts ++ [.ref s.heap.objs.size]))) := fun d hd => by
      rw [upd_ne hd]
      by_cases e : d = s.heap.objs.size
      · subst e; exact .inr ⟨hTn, x, y, w, upd_same⟩
      · exact .inl (upd_ne e)
    refine wpAny_pure ⟨plainId_quiet F.plain_extend_loop _, ?_⟩
    refine ih (i + 1) _ _ (ts ++ [.ref s.heap.objs.size]) (by omega) (by omega) I2 ?_ (g1.1.at fun o e => oth hL.2.2.2.1.symm e) (g2.1.at fun o e => oth hL.2.2.2.2.1.symm e) (g3.1.at fun o e => oth hL.2.2.2.2.2.symm e) (fun d hd => ?_) upd_same (by rw [List.length_append, List.length_singleton, hlen]) (old2 hLa.1.symm ha) (old2 hLa.2.1.symm hb) (old2 hLa.2.2.symm hc) (fun j t hj => ?_) fun s' H' ts' I' e' l' t' g' => hR s' H' ts' I' e' l' t' (gr.trans g')
    · obtain ⟨zT, ⟨b1, b2, b3, zO⟩, zz⟩ := hz'
      refine ⟨oth hL.2.1.symm zT, ⟨b1, b2, b3, oth hL.2.2.1.symm zO⟩, ?_⟩
      rcases zz with zz | ⟨T, f, oT, zz, eT, t1, t2, t3, t4, t5⟩
      · exact .inl (oth hL.1.symm zz)
      · by_cases e : T = L
        · subst e
          refine .inr ⟨T, f, _, oth hL.1.symm zz, Heap.get?_update_self _ el rfl, t1, t2, t3, t4, t5⟩
        · exact .inr ⟨T, f, oT, oth hL.1.symm zz, oth e eT, t1, t2, t3, t4, t5⟩
    · obtain ⟨f0, fr⟩ := hf d hd
      refine ⟨?_, fr⟩
      have hdL : d ≠ L := fun e => by rw [e, hHL] at f0; cases f0
      have hdT : d ≠ s.heap.objs.size := by
        have lt : ∀ {d : Addr} {o : Obj}, s.heap.get? d = some o → d ≠ s.heap.objs.size := fun e => Nat.ne_of_lt (Heap.lt_size e)
        obtain ⟨zT, ⟨b1, b2, b3, zO⟩, zz⟩ := hz
        have e' : d = z ∨ d = TO ∨ d = i1 ∨ d = i2 ∨ d = i3 := by simpa using hd
        rcases e' with q | q | q | q | q
        · rw [q]
          rcases zz with zz | ⟨T, f, oT, zz, _⟩ <;> exact lt zz
        · rw [q]; exact lt zO
        · rw [q]; obtain ⟨_, e1, _⟩ := h1; exact lt e1
        · rw [q]; obtain ⟨_, e1, _⟩ := h2; exact lt e1
        · rw [q]; obtain ⟨_, e1, _⟩ := h3; exact lt e1
      rw [upd_ne hdL, upd_ne hdT]
      exact f0
    · by_cases e : j < ts.length
      · rw [List.getElem?_append_left e] at hj
        obtain ⟨T, x', y', w', rfl, eT, k1, k2, k3⟩ := ht j t hj
        exact ⟨T, x', y', w', rfl, old2 (fun q => by rw [q, hHL] at eT; cases eT) eT, k1, k2, k3⟩
      · rw [List.getElem?_append_right (by omega)] at hj
        have ej : j - ts.length = 0 := by
          obtain ⟨hl, _⟩ := List.getElem?_eq_some_iff.mp hj
          rw [List.length_singleton] at hl
          omega
        rw [ej] at hj
        have ej2 : j = i := by omega
        subst ej2
        simp only [List.getElem?_cons_zero, Option.some.injEq] at hj
        subst hj
        exact ⟨_, x, y, w, rfl, by rw [upd_ne hTL]; exact upd_same, hx, hy, hw⟩
theorem zip_nolen : typeLookup (.type "zip") "__len__" = pure none := by rw [typeLookup_type, builtinLookup_eq_fast]; kernel_rfl
theorem zip_nohint : typeLookup (.type "zip") "__length_hint__" = pure none := by rw [typeLookup_type, builtinLookup_eq_fast]; kernel_rfl
/-- what stands at S, written twice and made empty, is an empty list still -/
theorem upd_at {h : Heap} {S : Addr} {o : Obj} {f : Obj → Obj} (e : h.get? S = some o) (hf : (f o).isFreed = false) : (h.update S f).get? S = some (f o) ∧ ∀ b u, b ≠ S → h.get? b = some u → (h.update S f).get? b = some u :=
  ⟨Heap.get?_update_self f e hf, fun b u hb q => (Heap.get?_update_other _ _ (Ne.symm hb)).trans q⟩
theorem call_list_z3 {s : Shared} {H : Hp} {Q : Value → Shared → Prop} {E : Value → Shared → Prop} (hh : A.handled = none) (I : Inv X pins σ H s) (fa : a ≠ i1) (fb : b ≠ i2) (fc : c ≠ i3) (S : ZipSep3 z TI TO i1 i2 i3 [i1, a] [i2, b] [i3, c]) (hn : n = min (min xs.length ys.length) zs.length)
    (hz : IsZip s.heap z TI TO .none) (hTI : IsTupOf3 s.heap TI (.ref i1) (.ref i2) (.ref i3)) (hTO : IsTupOf3 s.heap TO .none .none .none) (h1 : s.heap.IsListIter i1 a 0) (h2 : s.heap.IsListIter i2 b 0) (h3 : s.heap.IsListIter i3 c 0)
    (hf : ∀ d ∈ [z, TO, i1, i2, i3], FpOk X pins H d) (ha : H a = some (.lst xs)) (hb : H b = some (.lst ys)) (hc : H c = some (.lst zs))
    (hQ : ∀ s' H' ts', Inv X pins σ H' s' → H s.heap.objs.size = none → H' s.heap.objs.size = some (.lst ts') → ts'.length = n → Trip H' xs ys zs ts' → Grown (upd H s.heap.objs.size (.lst [])) s.heap.objs.size H' → Q (.ref s.heap.objs.size) s') :
    wpAny (model X.prog X.w) A (call (.type "list") [.ref z]) Q E s := by
  have lt : ∀ {d : Addr} {o : Obj}, s.heap.get? d = some o → s.heap.objs.size ≠ d := fun e => Nat.ne_of_gt (Heap.lt_size e)
  have hSn : H s.heap.objs.size = none := I.hok.fresh (Nat.le_refl _)
  have hnz : n ≤ sizeLine := by
    obtain ⟨_, _, _, q⟩ := I.list (.inl (.inl ha))
    omega
  have la : s.heap.objs.size ≠ a := fun e => by rw [e, ha] at hSn; cases hSn
  have lb : s.heap.objs.size ≠ b := fun e => by rw [e, hb] at hSn; cases hSn
  have lc : s.heap.objs.size ≠ c := fun e => by rw [e, hc] at hSn; cases hSn
  have l1 : s.heap.objs.size ≠ i1 := by obtain ⟨_, e, _⟩ := h1; exact lt e
  have l2 : s.heap.objs.size ≠ i2 := by obtain ⟨_, e, _⟩ := h2; exact lt e
  have l3 : s.heap.objs.size ≠ i3 := by obtain ⟨_, e, _⟩ := h3; exact lt e
  refine callType_codes (Q₁ := fun obj s₁ => obj = .ref s.heap.objs.size ∧ s₁ = { s with heap := s.heap.push { cls := .type "list", data := .seq #[] } }) F.called_list (F.typeCall_list_1 _) F.entry_list_init (code_list_new _ ⟨rfl, rfl⟩) fun obj s₁ q₁ => ?_
  obtain ⟨rfl, rfl⟩ := q₁
  have e0 : (s.heap.push { cls := .type "list", data := .seq #[] }).get? s.heap.objs.size = some { cls := .type "list", data := .seq #[] } := Heap.get?_push_size _ rfl
  have k0 : ∀ d o, d ≠ s.heap.objs.size → s.heap.get? d = some o → (s.heap.push { cls := .type "list", data := .seq #[] }).get? d = some o := fun d o _ e => Heap.get?_push_of_some _ e
  refine ⟨⟨_, e0, rfl⟩, F.args_list_init_2 _ _, ?_⟩
  generalize s.heap.push { cls := .type "list", data := .seq #[] } = g0 at e0 k0
  generalize hSz : s.heap.objs.size = L at *
  show wpAny _ A.in1.in1 (do let old ← Builtin.List.listItems (.ref L); Builtin.List.listUpdate (.ref L) (fun _ => #[]); letGo old.toList.reverse; Builtin.List.listExtendWith (.ref L) (.ref z) .none) _ _ { s with heap := g0 }
  refine wpAny_bind ?_
  unfold Builtin.List.listItems
  refine wpAny_bind (wpAny_seqItems e0 rfl (wpAny_pure ?_))
  show wpAny _ A.in1.in1 (updateSeq L (fun _ => #[]) >>= fun _ => letGo (#[] : Array Value).toList.reverse >>= fun _ => Builtin.List.listExtendWith (.ref L) (.ref z) .none) _ _ { s with heap := g0 }
  refine wpAny_bind (wpAny_updateSeq e0 rfl ?_)
  obtain ⟨e1, k1⟩ := upd_at (f := Obj.mapSeq fun _ => (#[] : Array Value)) e0 rfl
  generalize g0.update L (Obj.mapSeq fun _ => (#[] : Array Value)) = g1 at e1 k1 ⊢
  refine wpAny_bind (wpAny_letGo ?_)
  have kk : ∀ d o, d ≠ L → s.heap.get? d = some o → g1.get? d = some o := fun d o hd e => k1 d o hd (k0 d o hd e)
  have z1 : IsZip g1 z TI TO .none := kk _ _ (lt hz).symm hz
  have ty : ({ s with heap := g1 } : Shared).TypeIs (.ref z) "zip" := ⟨_, z1, rfl⟩
  unfold Builtin.List.listExtendWith
  refine wpAny_bind (wpAny_typeOf ty ?_)
  have ns : Builtin.List.listSameRef (.ref L) (.ref z) = false := by simp [Builtin.List.listSameRef, lt hz]
  have nl : (Value.type "zip" == Value.type "list") = false := by decide +kernel
  have nt : (Value.type "zip" == Value.type "tuple") = false := by decide +kernel
  simp only [ns, nl, nt, Bool.or_false, Bool.false_eq_true, if_false]
  refine wpAny_bind (wpAny_pyIter_zip z1 ?_)
  refine wpAny_bind (wpAny_holding ?_)
  unfold Builtin.List.listLengthHint
  refine wpAny_bind (wpAny_specialOf ty zip_nolen ?_)
  show wpAny _ A.in1.in1 (specialOf (Value.ref z) (Str.ofString "__length_hint__") >>= _) _ _ _
  refine wpAny_bind (wpAny_specialOf ty zip_nohint (wpAny_pure ?_))
  show wpAny _ A.in1.in1 (rule "list.extend.makes-room" >>= fun _ => Builtin.List.listTouch (.ref L) >>= fun _ => again (.builtin "list.extend.loop" ⟨[.ref L, .ref z, .none], []⟩)) _ _ _
  refine wpAny_bind (wpAny_rule (wpAny_bind ?_))
  show wpAny _ A.in1.in1 (updateSeq L (·.push .none) >>= fun _ => updateSeq L (·.pop)) _ _ { s with heap := g1 }
  refine wpAny_bind (wpAny_updateSeq (s := { s with heap := g1 }) e1 rfl ?_)
  obtain ⟨e2, k2⟩ := upd_at (f := Obj.mapSeq (·.push Value.none)) e1 rfl
  generalize g1.update L (Obj.mapSeq (·.push Value.none)) = g2 at e2 k2 ⊢
  refine wpAny_updateSeq (s := { s with heap := g2 }) e2 rfl ?_
  obtain ⟨e3, k3⟩ := upd_at (f := Obj.mapSeq (·.pop)) e2 rfl
  generalize g2.update L (Obj.mapSeq (·.pop)) = g3 at e3 k3 ⊢
  have all : ∀ d o, d ≠ L → s.heap.get? d = some o → g3.get? d = some o := fun d o hd e => k3 d o hd (k2 d o hd (kk d o hd e))
  have I3 : Inv X pins σ (upd H L (.lst [])) { s with heap := g3 } := I.laid (t' := s.toks) (fun d o e => all d o (lt e).symm e) (by rw [hSz]; exact Nat.le_refl _) ⟨Nat.zero_le _, [], _, .nil, e3⟩
  refine wpAny_pure ⟨plainId_quiet F.plain_extend_loop _, z3_loop (A := A.in1) hh fa fb fc S ⟨lt hz, lt hTI, lt hTO, l1, l2, l3⟩ ⟨la, lb, lc⟩ hn hnz n 0 _ _ [] (by omega) (Nat.zero_le _) I3
    ⟨all _ _ (lt hTI).symm hTI, ⟨_, _, _, all _ _ (lt hTO).symm hTO⟩, .inl (all _ _ (lt hz).symm hz)⟩ (h1.at fun o e => all _ _ l1.symm e) (h2.at fun o e => all _ _ l2.symm e) (h3.at fun o e => all _ _ l3.symm e) (fun d hd => ?_) upd_same rfl (by rw [upd_ne la.symm]; exact ha) (by rw [upd_ne lb.symm]; exact hb) (by rw [upd_ne lc.symm]; exact hc)
    (fun j t hj => by simp at hj) fun s' H' ts' I' e' l' t' g' => ?_⟩
  · obtain ⟨f0, fr⟩ := hf d hd
    refine ⟨?_, fr⟩
    have hdL : d ≠ L := by
      have e' : d = z ∨ d = TO ∨ d = i1 ∨ d = i2 ∨ d = i3 := by simpa using hd
      rcases e' with q | q | q | q | q
      · rw [q]; exact (lt hz).symm
      · rw [q]; exact (lt hTO).symm
      · rw [q]; exact l1.symm
      · rw [q]; exact l2.symm
      · rw [q]; exact l3.symm
    rw [upd_ne hdL]
    exact f0
  · exact ⟨rfl, hQ s' H' ts' I' hSn e' l' t' g'⟩
end
end PL
end

section
set_option Elab.async false
set_option linter.all false
set_option maxRecDepth 100000
set_option autoImplicit false
/-! SZ3: list(zip(a, b, c)): the rule. -/
namespace PL
open PySem PySem.Spec PyProof.Rows
open L2 (V Hp HO upd upd_same upd_ne SqL SqT Rd Same Cx OpR UnR CallR R2 VK Inv EP RelV FnOk Sp Room Vals FpOk PA TA TE Gl)

def rZ3 : List V → Hp → VK → Prop := fun vs H Q => ∃ (a b c : Addr) (xs ys zs : List V), vs = [V.ref a, V.ref b, V.ref c] ∧ H a = some (.lst xs) ∧ H b = some (.lst ys) ∧ H c = some (.lst zs) ∧
  ∀ (L : Addr) (H2 : Hp) (ts : List V), H L = none → H2 L = some (.lst ts) → ts.length = min (min xs.length ys.length) zs.length → Trip H2 xs ys zs ts → Grown (upd H L (.lst [])) L H2 → Q (.ref L) H2
def tZ3 (ta : TA) : TE := fun σ H Q => ta σ H fun vs H1 => rZ3 vs H1 Q
theorem pe_listZ3 {X : Cx} {e e2 e3 : Expr} {ta : TA} {p pos p2 pos2 : Pos} (hc : X.calm = true) (hg : Gl X "zip") (hm : X.mg "zip" = none) (hg2 : Gl X "list") (hm2 : X.mg "list" = none) (ha : PA X [e, e2, e3] ta)
    (hs : starEach [e, e2, e3] X.env = (false, eval e X.env) :: starEach [e2, e3] X.env) (hpl : (backTo pos2 (starEach [e2, e3] X.env)).any (·.1) = false)
    (na : starEach [.Call (.Name "zip" p2) [e, e2, e3] [] pos2] X.env = (false, eval (.Call (.Name "zip" p2) [e, e2, e3] [] pos2) X.env) :: starEach [] X.env := by rfl) :
    L2.PE X (.Call (.Name "list" p) [.Call (.Name "zip" p2) [e, e2, e3] [] pos2] [] pos) (tZ3 ta) := by
  refine ⟨fun pins s σ H Q I h => ?_⟩
  refine Call_ (L2.ld_blt I hg2 hm2 boot_list (PyProof.Rows.callWith_type1 (args_cons ?_ na) na))
  refine Call_ (L2.ld_blt I hg hm PyProof.Rows.boot_zip (PyProof.Rows.callWith_type1 (L2.thn (ha.run pos2 pins s σ H _ I h) fun us s1 ⟨vs, H1, I1, r1, q1⟩ => ?_) hs hpl))
  obtain ⟨a, b, c, xs, ys, zs, ex, ea, eb, ec, q⟩ := q1
  subst ex
  cases r1 with
  | cons r rr =>
  cases rr with
  | cons r' rr =>
  cases rr with
  | cons r'' rr =>
  cases rr
  cases r
  cases r'
  cases r''
  obtain ⟨its, rv, p1, _⟩ := I1.list (.inl (.inl ea))
  obtain ⟨its2, rv2, p2, _⟩ := I1.list (.inl (.inl eb))
  obtain ⟨its3, rv3, p3, _⟩ := I1.list (.inl (.inl ec))
  refine zip_begins3 (begins_list a its.toArray) (begins_list b its2.toArray) (begins_list c its3.toArray) p1.isList p2.isList p3.isList fun h' hz hTI hTO g1 g2 g3 hsz hk => args_nil ?_
  have I2 : Inv X pins σ H1 { s1 with heap := h' } := I1.kept (t' := s1.toks) hk
  have fresh6 : ∀ d, d ∈ [s1.heap.objs.size + 5, s1.heap.objs.size + 4, s1.heap.objs.size, s1.heap.objs.size + 1, s1.heap.objs.size + 2] → FpOk X pins H1 d := fun d hd => by
    have e' : d = s1.heap.objs.size + 5 ∨ d = s1.heap.objs.size + 4 ∨ d = s1.heap.objs.size ∨ d = s1.heap.objs.size + 1 ∨ d = s1.heap.objs.size + 2 := by simpa using hd
    have hle : s1.heap.objs.size ≤ d := by
      rcases e' with z | z | z | z | z <;> rw [z]
      · exact Nat.le_add_right _ _
      · exact Nat.le_add_right _ _
      · exact Nat.le_refl _
      · exact Nat.le_add_right _ _
      · exact Nat.le_add_right _ _
    exact I1.fpOk hle (I1.hok.fresh hle)
  have la := p1.lt
  have lb := p2.lt
  have lc := p3.lt
  have sep := zip_sep3 (N := s1.heap.objs.size) (fp1 := [a]) (fp2 := [b]) (fp3 := [c]) (fun d hd => by rw [List.mem_singleton.mp hd]; exact la) (fun d hd => by rw [List.mem_singleton.mp hd]; exact lb) (fun d hd => by rw [List.mem_singleton.mp hd]; exact lc)
  refine call_list_z3 (s := { s1 with heap := h' }) (I2.ok.hd hc) I2 (Nat.ne_of_lt la) (Nat.ne_of_lt (Nat.lt_succ_of_lt lb)) (Nat.ne_of_lt (Nat.lt_succ_of_lt (Nat.lt_succ_of_lt lc))) sep rfl hz hTI hTO ⟨_, g1, rfl, rfl⟩ ⟨_, g2, rfl, rfl⟩ ⟨_, g3, rfl, rfl⟩ fresh6 ea eb ec
    fun s' H' ts' I' hn e' l' t' g' => ⟨.ref h'.objs.size, H', I', rfl, q _ H' ts' hn e' l' t' g'⟩
section
variable {K : PySem.W.Frag} {G : Addr → Prop} {H : Hp}
theorem trip_dat : ∀ {ds es fs : List D} {xs ys zs ts : List V}, DatA K G H xs ds → DatA K G H ys es → DatA K G H zs fs → Trip H xs ys zs ts → ts.length = min (min xs.length ys.length) zs.length → DatA K G H ts (zip3 ds es fs)
  | d :: ds, e :: es, f :: fs, _, _, _, ts, .cons (v := x) (vs := xs) hx hxs, .cons (v := y) (vs := ys) hy hys, .cons (v := z) (vs := zs) hz hzs, t, l => by
    match ts, l, t with
    | [], l, _ => simp at l
    | u :: ts, l, t =>
      obtain ⟨T, x', y', z', rfl, eT, e1, e2, e3⟩ := t 0 u rfl
      cases e1; cases e2; cases e3
      exact .cons (.tup eT (.cons hx (.cons hy (.cons hz .nil)))) (trip_dat hxs hys hzs (fun i w h => t (i + 1) w h) (by simp only [List.length_cons] at l; omega))
  | [], es, fs, _, _, _, ts, .nil, _, _, _, l => by
    obtain rfl : ts = [] := List.eq_nil_of_length_eq_zero (by simpa using l)
    exact .nil
  | d :: ds, [], fs, _, _, _, ts, _, .nil, _, _, l => by
    obtain rfl : ts = [] := List.eq_nil_of_length_eq_zero (by simpa using l)
    exact .nil
  | d :: ds, e :: es, [], _, _, _, ts, _, _, .nil, _, l => by
    obtain rfl : ts = [] := List.eq_nil_of_length_eq_zero (by simpa using l)
    exact .nil
theorem sem_z3 : OpN K .listZip3 3 rZ3 := fun G H vs xs k z Q hx hv fl hd hl q => by
  match xs, vs, hx, hv with
  | [x, y, w], [v, v2, v3], _, _ =>
  obtain ⟨_, e1, f1⟩ := fl 0 x rfl
  obtain ⟨_, e2, f2⟩ := fl 1 y rfl
  obtain ⟨_, e3, f3⟩ := fl 2 w rfl
  cases e1; cases e2; cases e3
  obtain ⟨ds, es, fs, rfl, rfl, rfl⟩ : ∃ ds es fs, x = .list ds ∧ y = .list es ∧ w = .list fs := by
    cases x <;> first | cases hd | (cases y <;> first | cases hd | (cases w <;> first | exact ⟨_, _, _, rfl, rfl, rfl⟩ | cases hd))
  cases hd
  obtain ⟨a, xs, rfl, ea, da⟩ := f1.list
  obtain ⟨b, ys, rfl, eb, db⟩ := f2.list
  obtain ⟨c, zs, rfl, ec, dc⟩ := f3.list
  refine ⟨a, b, c, xs, ys, zs, rfl, ea, eb, ec, fun L H2 ts hn eL lt tr gr => q _ _ ?_⟩
  have sm : Same H H2 := fun d o e => by
    have hd : d ≠ L := L2.ne_of_none e hn
    exact gr.keep hd (by rw [upd_ne hd]; exact e)
  have pr : Pres K G H (GG G [L]) H2 := ⟨fun d o e g => ⟨sm d o e, fun z => z.elim g fun z => by
    rw [List.mem_singleton.mp z, hn] at e; cases e⟩, fun d o e => sm _ _ e⟩
  have hts : ts.length ≤ sizeLine := by
    have := hl a xs (.inl ea)
    omega
  refine ⟨sm, fun d us e => ?_, rfl, [L], by simp, fun d z => by rw [List.mem_singleton.mp z]; exact hn, .l eL (OwnA.of (trip_dat (DatA.pres pr _ _ da) (DatA.pres pr _ _ db) (DatA.pres pr _ _ dc) tr lt))⟩
  by_cases ed : d = L
  · subst ed
    rcases e with e | e <;> rw [eL] at e <;> cases e
    exact hts
  · rcases gr d ed with g | ⟨_, x, y, z, g⟩
    · rw [upd_ne ed] at g
      exact hl d us (by rw [g] at e; exact e)
    · rcases e with e | e <;> rw [g] at e <;> cases e
      show 3 ≤ sizeLine
      decide
end
theorem se_z3 {S : Stat} {a b c : Expr} {pa pb pc : PE} {p pos p2 pos2 : Pos} (A : SG S a pa) (B : SG S b pb) (C : SG S c pc) (n : noStar a = true) (n2 : noStar b = true) (n3 : noStar c = true) (hg : glN S.nm "zip" = true) (hm : S.mg "zip" = none) (hg2 : glN S.nm "list" = true) (hm2 : S.mg "list" = none) : SE S (.Call (.Name "list" p) [.Call (.Name "zip" p2) [a, b, c] [] pos2] [] pos) (.op .listZip3 [pa, pb, pc]) := by
  refine SE.opN (r := rZ3) (SGs.cons A (SGs.cons B (SGs.cons C SGs.nil))) sem_z3 fun ts pes => ?_
  cases pes with
  | cons h1 t1 =>
  cases t1 with
  | cons h2 t2 =>
  cases t2 with
  | cons h3 t3 =>
  cases t3
  exact ⟨_, .plain (fun X hX => pe_listZ3 hX.calm (gl_ok hX hg) (by rw [hX.mg]; exact hm) (gl_ok hX hg2) (by rw [hX.mg]; exact hm2) (L2.pa_cons (h1 X hX).1 (L2.pa_cons (h2 X hX).1 (L2.pa_cons (h3 X hX).1 L2.pa_nil (star_cons n3 _ _)) (star_cons n2 _ _)) (star_cons n _ _)) (star_cons n _ _) (star_plain (es := [b, c]) (by simp [n2, n3]))) rfl, fun σ H Q h => h⟩
end PL
end

section
set_option Elab.async false
set_option linter.all false
set_option maxRecDepth 100000
set_option autoImplicit false
/-! SE13: a check that ties the text to the small language. -/
namespace PL
open PySem PySem.Spec PyProof.Rows
open L2 (V Hp HO upd upd_same upd_ne SqL SqT Rd Same Cx OpR UnR CallR R2 VK Inv EP RelV FnOk Sp Room)

/-! ### operators -/
def binOk : Operator → Op → Bool
  | .Add, .add => true
  | .Sub, .sub => true
  | .Mult, .mul => true
  | .FloorDiv, .fdiv => true
  | .Mod, .mod => true
  | .Pow, .pow => true
  | .LShift, .shl => true
  | .RShift, .shr => true
  | _, _ => false
def cmpOk : CmpOp → Op → Bool
  | .Eq, .eq => true
  | .NotEq, .ne => true
  | .Lt, .lt => true
  | .LtE, .le => true
  | .Gt, .gt => true
  | .GtE, .ge => true
  | .In, .isin => true
  | .NotIn, .notin => true
  | _, _ => false
section
variable {S : Stat}
theorem opR_K {w : PySem.W.Frag → R2} {f : Value → Value → Sem Value} (h : ∀ X, In S X → OpR X f (w X.K)) : ∀ X, In S X → OpR X f (w S.K) := fun X hX => hX.K ▸ h X hX
theorem se_binOk {op : Operator} {o : Op} {a b : Expr} {pa pb : PE} {pos : Pos} (h : binOk op o = true) (A : SG S a pa) (B : SG S b pb) : SE S (.BinOp a op b pos) (.op o [pa, pb]) := by
  cases op <;> cases o <;> first | cases h | skip
  · exact se_bin sem_add (opR_K (w := rAdd) fun X hX => OpR.or L2.op_add (OpR.or L2.op_cat L2.op_catA)) A B
  · exact se_bin sem_sub (fun X hX => L2.op_sub) A B
  · exact se_bin sem_mul (fun X hX => OpR.or L2.op_mul L2.op_rep) A B
  · exact se_bin sem_mod (fun X hX => L2.op_modN) A B
  · exact se_bin sem_pow (fun X hX => L2.op_pow) A B
  · exact se_bin sem_shl (fun X hX => L2.op_shl) A B
  · exact se_bin sem_shr (fun X hX => L2.op_shr) A B
  · exact se_bin sem_fdiv (fun X hX => L2.op_fdivN) A B
theorem se_cmpOk {op : CmpOp} {o : Op} {a b : Expr} {pa pb : PE} {pos : Pos} (hu : S.A.units + 65 < cLine) (h : cmpOk op o = true) (hm : behindInMarks op b = false) (A : SG S a pa) (B : SG S b pb) : SE S (.Compare a [op] [b] pos) (.op o [pa, pb]) := by
  have hu' : ∀ X, In S X → X.A.units + 65 < cLine := fun X hX => by rw [hX.A]; exact hu
  cases op <;> cases o <;> first | cases h | skip
  · exact se_cmp sem_eq (opR_K (w := L2.rEqD) fun X hX => L2.op_eqD (by have := hu' X hX; omega)) hm A B
  · exact se_cmp sem_ne (opR_K (w := L2.rNeD) fun X hX => L2.op_neD (by have := hu' X hX; omega)) hm A B
  · exact se_cmp sem_lt (opR_K (w := rLt) fun X hX => OpR.or L2.op_lt (L2.op_ltT (by have := hu' X hX; omega))) hm A B
  · exact se_cmp sem_le (opR_K (w := rLe) fun X hX => OpR.or L2.op_le (L2.op_leT (by have := hu' X hX; omega))) hm A B
  · exact se_cmp sem_gt (fun X hX => L2.op_gt) hm A B
  · exact se_cmp sem_ge (fun X hX => L2.op_ge) hm A B
  · exact se_cmp sem_in (opR_K (w := rIn) fun X hX => op_in (hu' X hX)) hm A B
  · exact se_cmp sem_notin (opR_K (w := rNotIn) fun X hX => op_notin (hu' X hX)) hm A B
theorem cR_K {w : PySem.W.Frag → List V → Hp → VK → Prop} {f : Value} (h : ∀ X, In S X → CallR X f (w X.K)) : ∀ X, In S X → CallR X f (w S.K) := fun X hX => hX.K ▸ h X hX
/-- the built-in functions: class or function, name, number of operands -/
def bName : Op → Option (String × Nat)
  | .len => some ("len", 1)
  | .abs => some ("abs", 1)
  | .int => some ("int", 1)
  | .min2 => some ("min", 2)
  | .max2 => some ("max", 2)
  | .minL => some ("min", 1)
  | .maxL => some ("max", 1)
  | .sum => some ("sum", 1)
  | .any => some ("any", 1)
  | .all => some ("all", 1)
  | .tuple => some ("tuple", 1)
  | .list => some ("list", 1)
  | .sorted => some ("sorted", 1)
  | _ => none
theorem se_blt (hu : S.A.units + 65 < cLine) {x : String} {o : Op} {k : Nat} {e : Expr} {es : List Expr} {ps : List PE} {p pos : Pos} (h : bName o = some (x, k)) (hk : ps.length = k) (A : SGs S (e :: es) ps) (hg : glN S.nm x = true) (hm : S.mg x = none) (n : (e :: es).all noStar = true) : SE S (.Call (.Name x p) (e :: es) [] pos) (.op o ps) := by
  cases o <;> simp only [bName, reduceCtorEq, Option.some.injEq, Prod.mk.injEq] at h <;> obtain ⟨rfl, rfl⟩ := h
  case len => exact se_bf A (by rw [hk]; exact sem_len) (cR_K (w := rLen) fun X hX => call_len) hg hm (by decide +kernel) n (by decide) (by decide)
  case abs => exact se_bf A (by rw [hk]; exact sem_abs) (fun X hX => L2.call_abs) hg hm (by decide +kernel) n (by decide) (by decide)
  case int => exact se_bt A (by rw [hk]; exact sem_int) (fun X hX => L2.call_int1) hg hm (by decide +kernel) n (by decide) (by decide)
  case min2 => exact se_bf A (by rw [hk]; exact sem_min2) (fun X hX => L2.call_min2 hX.calm) hg hm (by decide +kernel) n (by decide) (by decide)
  case max2 => exact se_bf A (by rw [hk]; exact sem_max2) (fun X hX => L2.call_max2 hX.calm) hg hm (by decide +kernel) n (by decide) (by decide)
  case minL => exact se_bf A (by rw [hk]; exact sem_minL) (cR_K (w := L2.rMin) fun X hX => L2.cr_min hX.calm) hg hm (by decide +kernel) n (by decide) (by decide)
  case maxL => exact se_bf A (by rw [hk]; exact sem_maxL) (cR_K (w := L2.rMax) fun X hX => L2.cr_max hX.calm) hg hm (by decide +kernel) n (by decide) (by decide)
  case sum => exact se_bf A (by rw [hk]; exact sem_sum) (cR_K (w := L2.rSum) fun X hX => L2.cr_sum hX.calm) hg hm (by decide +kernel) n (by decide) (by decide)
  case any => exact se_bf A (by rw [hk]; exact sem_any) (cR_K (w := L2.rAny) fun X hX => L2.cr_any hX.calm) hg hm (by decide +kernel) n (by decide) (by decide)
  case all => exact se_bf A (by rw [hk]; exact sem_all) (cR_K (w := L2.rAll) fun X hX => L2.cr_all hX.calm) hg hm (by decide +kernel) n (by decide) (by decide)
  case tuple => exact se_bt A (by rw [hk]; exact sem_tuple) (cR_K (w := fun K xs H Q => ∃ p ys, xs = [.ref p] ∧ ((SqL K H p ys ∧ ∀ l, H l = none → Q (.ref l) (upd H l (.tup ys))) ∨ (SqT K H p ys ∧ Q (.ref p) H))) fun X hX => L2.call_tuple_of) hg hm (by decide +kernel) n (by decide) (by decide)
  case list => exact se_bt A (by rw [hk]; exact sem_list) (cR_K (w := fun K xs H Q => ∃ p ys, xs = [.ref p] ∧ (SqL K H p ys ∨ SqT K H p ys) ∧ ∀ l, H l = none → Q (.ref l) (upd H l (.lst ys))) fun X hX => L2.call_list_of) hg hm (by decide +kernel) n (by decide) (by decide)
  case sorted => exact se_bf A (by rw [hk]; exact sem_sorted) (cR_K (w := rSrt) fun X hX => call_srt (by rw [hX.A]; exact hu)) hg hm (by decide +kernel) n (by decide) (by decide)
def tName : Op → Option String
  | .isInt => some "int"
  | .isBoolT => some "bool"
  | .isTuple => some "tuple"
  | .isStr => some "str"
  | .isList => some "list"
  | _ => none
theorem se_isT {x : String} {o : Op} {a : Expr} {pa : PE} {p p2 pos : Pos} (h : tName o = some x) (A : SG S a pa) (hg : glN S.nm "isinstance" = true) (hm : S.mg "isinstance" = none) (hg2 : glN S.nm x = true) (hm2 : S.mg x = none) (n : noStar a = true) : SE S (.Call (.Name "isinstance" p) [a, .Name x p2] [] pos) (.op o [pa]) := by
  cases o <;> simp only [tName, reduceCtorEq, Option.some.injEq] at h <;> subst h
  case isInt => exact se_isi A sem_isInt hg hm hg2 hm2 (by decide +kernel) n (by decide) (by decide)
  case isBoolT => exact se_isi A sem_isBoolT hg hm hg2 hm2 (by decide +kernel) n (by decide) (by decide)
  case isTuple => exact se_isi A sem_isTuple hg hm hg2 hm2 (by decide +kernel) n (by decide) (by decide)
  case isStr => exact se_isi A sem_isStr hg hm hg2 hm2 (by decide +kernel) n (by decide) (by decide)
  case isList => exact se_isi A sem_isList hg hm hg2 hm2 (by decide +kernel) n (by decide) (by decide)
/-- x is None, x is not None, x is True, x is False -/
def isOk (op : CmpOp) (b : Expr) (o : Op) : Bool := match op, b, o with
  | .Is, .Constant .none _ _, .isNone => true
  | .IsNot, .Constant .none _ _, .notNone => true
  | .Is, .Constant (.bool c) _ _, .isBool d => c == d
  | _, _, _ => false
theorem se_isOk {op : CmpOp} {b : Expr} {o : Op} {a : Expr} {pa : PE} {pos : Pos} (h : isOk op b o = true) (A : SG S a pa) : SE S (.Compare a [op] [b] pos) (.op o [pa]) := by
  unfold isOk at h
  split at h
  · exact se_isNone A
  · exact se_notNone A
  · rename_i c _ _ d
    obtain rfl : c = d := by simpa using h
    exact se_isBool A
  · cases h
end

/-! ### the check -/
structure Ck where
  N : List Str
  fns : List (Str × Nat)
  kfns : List (Str × Nat × Nat × List Str)
  non : List Str
inductive Job where
  | E (e : Expr) (p : PE)
  | Q (e : Expr) (p : PE)
  | C (e : Expr) (p : PE)
  | A (e : Expr) (p : PE)
  | Es (es : List Expr) (ps : List PE)
  | As (es : List Expr) (ps : List PE)
  | Os (es : List Expr) (ps : List PE)
  | T (e : Expr) (p : PE)
  | W (e : Expr) (p : PE)
  | P (o : Option Expr) (b : Bool) (p : PE)
  | I (tg e : Expr) (p : PIt)
  | F (ifs : List Expr) (p : PE)
  | G (e : Expr) (p : PTg)
  | Gs (es : List Expr) (ps : List PTg)
  | S (s : Stmt) (p : PS)
  | Ss (ss : List Stmt) (ps : List PS)
structure Good (C : Ck) (S : Stat) : Prop where
  N : S.N = C.N
  nd : S.N.Nodup
  hu : S.A.units + 65 < cLine
  fn : ∀ x f, (x, f) ∈ C.fns → FnFact S x f
  kfn : ∀ x f m ks, (x, f, m, ks) ∈ C.kfns → FnFactK S x f m ks
  non : ∀ x ∈ C.non, S.mg x = none
theorem Good.blk {C : Ck} {S : Stat} (h : Good C S) (scope : Scope) : Good C (S.blk scope) := ⟨h.N, h.nd, h.hu, h.fn, h.kfn, h.non⟩
def Holds (S : Stat) : Job → Prop
  | .E e p => SE S e p
  | .Q e p => SEC S e p
  | .C e p => SE S e p
  | .A e p => SG S e p
  | .Es es ps => SDs S es ps
  | .As es ps => SGs S es ps
  | .Os es ps => SOs S es ps
  | .T e p => STt S e p
  | .W e p => SW S e p
  | .P o b p => PartOk S b p o
  | .I tg e p => SI S tg e p
  | .F ifs p => SF S ifs p
  | .G e p => SGt S e p
  | .Gs es ps => SGts S es ps
  | .S s p => SS S s p
  | .Ss ss ps => SSs S ss ps
abbrev Rec := List (Str × NameKind) → (Str → Bool) → Job → Bool
section
variable (C : Ck) (nm : List (Str × NameKind)) (cs : Str → Bool)
def nameB (x : Str) (i : Nat) : Bool := decide (C.N[i]? = some x) && (visN nm x && (!(x == ("__debug__" : Str)) && !(x == ("__classdict__" : Str))))
def bltB (x : Str) : Bool := glN nm x && C.non.contains x
def ckB (rec : Rec) (e : Expr) (o : Op) (ps : List PE) : Bool := match e, ps with
  | .Call (.Name x _) (a :: es) [] _, ps => match bName o, tName o with
    | some (y, k), _ => decide (x = Str.ofString y) && (decide (ps.length = k) && (bltB C nm x && ((a :: es).all noStar && rec nm cs (.As (a :: es) ps))))
    | none, some t => match es, ps with
      | [.Name y _], [pa] => decide (x = ("isinstance" : Str)) && (decide (y = Str.ofString t) && (bltB C nm x && (bltB C nm y && (noStar a && rec nm cs (.A a pa)))))
      | _, _ => false
    | _, _ => false
  | _, _ => false
def ckOp (rec : Rec) (e : Expr) (o : Op) (ps : List PE) : Bool := match e, ps with
  | .BinOp a op b _, [pa, pb] => binOk op o && (rec nm cs (.A a pa) && rec nm cs (.A b pb))
  | .Compare a [op] [b] _, [pa, pb] => cmpOk op o && (!(behindInMarks op b) && (rec nm cs (.A a pa) && rec nm cs (.A b pb)))
  | .Compare a [op] [b] _, [pa] => isOk op b o && rec nm cs (.A a pa)
  | .UnaryOp .USub a _, [pa] => match o with
    | .neg => rec nm cs (.A a pa)
    | _ => false
  | .Subscript a b _, [pa, pb] => match o with
    | .ix => noSlice b && (rec nm cs (.A a pa) && rec nm cs (.A b pb))
    | _ => false
  | .Call (.Name x _) [.Call (.Name y _) [a] [] _] [] _, [pa] => match o with
    | .rangeL tp 1 => decide (x = (if tp then Str.ofString "tuple" else Str.ofString "list")) && (decide (y = ("range" : Str)) && (bltB C nm x && (bltB C nm y && (noStar a && rec nm cs (.A a pa)))))
    | _ => ckB C nm cs rec e o ps
  | .Call (.Name x _) [.Call (.Name y _) [a, b] [] _] [] _, [pa, pb] => match o with
    | .rangeL tp 2 => decide (x = (if tp then Str.ofString "tuple" else Str.ofString "list")) && (decide (y = ("range" : Str)) && (bltB C nm x && (bltB C nm y && (noStar a && (noStar b && (rec nm cs (.A a pa) && rec nm cs (.A b pb)))))))
    | _ => ckB C nm cs rec e o ps
  | .Call (.Name x _) [.Call (.Name y _) [a, b, c] [] _] [] _, [pa, pb, pc] => match o with
    | .listZip3 => decide (x = ("list" : Str)) && (decide (y = ("zip" : Str)) && (bltB C nm x && (bltB C nm y && (noStar a && (noStar b && (noStar c && (rec nm cs (.A a pa) && (rec nm cs (.A b pb) && rec nm cs (.A c pc)))))))))
    | _ => ckB C nm cs rec e o ps
  | e, ps => ckB C nm cs rec e o ps
def ownOf (vs : List Nat) : List (Str × Nat) := vs.filterMap fun i => (C.N[i]?).map fun x => (x, i)
def csOf (scope : Scope) : Str → Bool := fun x => scope.names.lookup x == some NameKind.cell
def ckQ (rec : Rec) (e : Expr) (p : PE) : Bool := match e, p with
  | .ListComp elt [⟨tg, iter, ifs, 0⟩] scope _, .comp pelt vs ptg pit pc =>
    decide ((ownOf C vs).map (·.2) = vs) && (blkB C.N nm scope (ownOf C vs) && (noSet iter && ((tgT ptg).all (fun i => vs.contains i) && (rec nm cs (.I tg iter pit) &&
      (rec (relN nm scope.names) (csOf scope) (.G tg ptg) && (rec (relN nm scope.names) (csOf scope) (.F ifs pc) && rec (relN nm scope.names) (csOf scope) (.E elt pelt)))))))
  | .ListComp elt [⟨tg, iter, ifs, 0⟩, ⟨tg1, iter1, ifs1, 0⟩] scope _, .comp2 pelt vs ptg pit pc ptg1 pit1 pc1 =>
    decide ((ownOf C vs).map (·.2) = vs) && (blkB C.N nm scope (ownOf C vs) && (noSet iter && (noSet iter1 && ((tgT ptg).all (fun i => vs.contains i) && ((tgT ptg1).all (fun i => vs.contains i) && (rec nm cs (.I tg iter pit) &&
      (rec (relN nm scope.names) (csOf scope) (.G tg ptg) && (rec (relN nm scope.names) (csOf scope) (.F ifs pc) && (rec (relN nm scope.names) (csOf scope) (.I tg1 iter1 pit1) && (rec (relN nm scope.names) (csOf scope) (.G tg1 ptg1) &&
        (rec (relN nm scope.names) (csOf scope) (.F ifs1 pc1) && rec (relN nm scope.names) (csOf scope) (.E elt pelt))))))))))))
  | _, _ => false
def ckC (rec : Rec) (e : Expr) (p : PE) : Bool := match e with
  | .BoolOp _ [x] _ => rec nm cs (.E x p)
  | .BoolOp .And (x :: y :: r) pos => match p with
    | .and a b => rec nm cs (.E x a) && rec nm cs (.C (.BoolOp .And (y :: r) pos) b)
    | _ => false
  | .BoolOp .Or (x :: y :: r) pos => match p with
    | .or a b => rec nm cs (.E x a) && rec nm cs (.C (.BoolOp .Or (y :: r) pos) b)
    | _ => false
  | _ => false
def ckE (rec : Rec) (e : Expr) (p : PE) : Bool := match p with
  | .var i => match e with
    | .Name x _ => nameB C nm x i
    | _ => false
  | .int n => match e with
    | .Constant (.int m) _ _ => decide (m = n)
    | _ => false
  | .bl b => match e with
    | .Constant (.bool c) _ _ => c == b
    | _ => false
  | .non => match e with
    | .Constant .none _ _ => true
    | _ => false
  | .str t => match e with
    | .Constant (.str x) _ _ => decide (x = t)
    | _ => false
  | .tup ps => match e with
    | .Tuple es _ _ => es.all noStar && (decide (ps.length ≤ 1000) && rec nm cs (.Es es ps))
    | _ => false
  | .lst ps => match e with
    | .List es _ => es.all noStar && (decide (ps.length ≤ 1000) && rec nm cs (.Es es ps))
    | _ => false
  | .dct => match e with
    | .Dict [] [] _ => true
    | _ => false
  | .op o ps => ckOp C nm cs rec e o ps
  | .slc [pa] bl lo bh hi => match e with
    | .Subscript a (.Slice l u none _) _ => rec nm cs (.A a pa) && (rec nm cs (.P l bl lo) && rec nm cs (.P u bh hi))
    | _ => false
  | .call f ps => match e with
    | .Call (.Name x _) (a :: es) [] _ => C.fns.contains (x, f) && (glN nm x && (!(x == ("__debug__" : Str)) && ((a :: es).all noStar && rec nm cs (.As (a :: es) ps))))
    | .Call (.Name x _) es kws _ => C.kfns.any fun q => decide (q.1 = x) && (decide (q.2.1 = f) && (decide (es.length = q.2.2.1) && (decide (kws.map (·.arg) = q.2.2.2.map some) && (glN nm x && (!(x == ("__debug__" : Str)) && (es.all noStar &&
        (decide (es.length = (ps.take es.length).length) && (decide ((kws.map kwv).length = (ps.drop es.length).length) && (rec nm cs (.As es (ps.take es.length)) && rec nm cs (.As (kws.map kwv) (ps.drop es.length)))))))))))
    | _ => false
  | .and _ _ => rec nm cs (.C e p)
  | .or _ _ => rec nm cs (.C e p)
  | .not a => match e with
    | .UnaryOp .Not x _ => rec nm cs (.E x a)
    | _ => false
  | .ifx c a b => match e with
    | .IfExp t x y _ => rec nm cs (.T t c) && (rec nm cs (.E x a) && rec nm cs (.E y b))
    | _ => false
  | .pop j => match e with
    | .Call (.Attribute (.Name x _) m apos) [] [] cpos => decide (m = ("pop" : Str)) && (nameB C nm x j && (apos.endLine == cpos.line))
    | _ => false
  | .popAt j q => match e with
    | .Call (.Attribute (.Name x _) m apos) [a] [] cpos => decide (m = ("pop" : Str)) && (nameB C nm x j && (noStar a && ((apos.endLine == cpos.line) && rec nm cs (.E a q))))
    | _ => false
  | .comp _ _ _ _ _ => rec nm cs (.Q e p)
  | .comp2 _ _ _ _ _ _ _ _ => rec nm cs (.Q e p)
  | _ => false
def ckA (rec : Rec) (e : Expr) (p : PE) : Bool := match p with
  | .var i => match e with
    | .Name x _ => nameB C nm x i
    | _ => false
  | p => rec nm cs (.E e p)
def ckT (rec : Rec) (e : Expr) (p : PE) : Bool := if tst e then rec nm cs (.E e p) else match e with
  | .UnaryOp .Not x _ => match p with
    | .not a => rec nm cs (.T x a)
    | _ => false
  | .BoolOp _ _ _ => rec nm cs (.W e p)
  | _ => false
def ckW (rec : Rec) (e : Expr) (p : PE) : Bool := match e with
  | .BoolOp .And [x] _ => rec nm cs (.T x p)
  | .BoolOp .Or [x] _ => rec nm cs (.T x p)
  | .BoolOp .And (x :: y :: r) pos => match p with
    | .and a b => rec nm cs (.T x a) && rec nm cs (.W (.BoolOp .And (y :: r) pos) b)
    | _ => false
  | .BoolOp .Or (x :: y :: r) pos => match p with
    | .or a b => rec nm cs (.T x a) && rec nm cs (.W (.BoolOp .Or (y :: r) pos) b)
    | _ => false
  | _ => false
def ckI (rec : Rec) (tg e : Expr) (p : PIt) : Bool := match p with
  | .e x => rec nm cs (.E e x)
  | .range1 pa => match e with
    | .Call (.Name x _) [a] [] _ => decide (x = ("range" : Str)) && (bltB C nm x && (noStar a && rec nm cs (.E a pa)))
    | _ => false
  | .range2 pa pb => match e with
    | .Call (.Name x _) [a, b] [] _ => decide (x = ("range" : Str)) && (bltB C nm x && (noStar a && (noStar b && (rec nm cs (.E a pa) && rec nm cs (.E b pb)))))
    | _ => false
  | .range3 pa pb pc => match e with
    | .Call (.Name x _) [a, b, c] [] _ => decide (x = ("range" : Str)) && (bltB C nm x && (noStar a && (noStar b && (noStar c && (rec nm cs (.E a pa) && (rec nm cs (.E b pb) && rec nm cs (.E c pc)))))))
    | _ => false
  | .enum pa => match tg, e with
    | .Tuple _ _ _, .Call (.Name x _) [a] [] _ => decide (x = ("enumerate" : Str)) && (bltB C nm x && (noStar a && rec nm cs (.E a pa)))
    | _, _ => false
  | .zip2 pa pb => match tg, e with
    | .Tuple _ _ _, .Call (.Name x _) [a, b] [] _ => decide (x = ("zip" : Str)) && (bltB C nm x && (noStar a && (noStar b && (rec nm cs (.E a pa) && rec nm cs (.E b pb)))))
    | _, _ => false
  | _ => false
def tgB (x : Str) : Bool := match nm.lookup x with
  | some .local => true
  | some .cell => cs x
  | _ => false
def namesB : List (Str × Pos) → List Nat → Bool
  | [], [] => true
  | q :: L, i :: is => C.N[i]? == some q.1 && (tgB nm cs q.1 && namesB L is)
  | _, _ => false
def namesOf : List Expr → Option (List (Str × Pos))
  | [] => some []
  | .Name x p :: r => (namesOf r).map ((x, p) :: ·)
  | _ :: _ => none
def ckS (rec : Rec) (s : Stmt) (p : PS) : Bool := match p with
  | .pass => match s with
    | .Pass _ => true
    | .Expr (.Constant (.str _) _ _) _ => true
    | _ => false
  | .brk => match s with
    | .Break _ => true
    | _ => false
  | .cont => match s with
    | .Continue _ => true
    | _ => false
  | .expr q => match s with
    | .Expr e _ => noComp e && rec nm cs (.E e q)
    | _ => false
  | .ret q => match s with
    | .Return (some e) _ => rec nm cs (.E e q)
    | _ => false
  | .retMv j => match s with
    | .Return (some (.Name x _)) _ => nameB C nm x j
    | _ => false
  | .retN => match s with
    | .Return none _ => true
    | _ => false
  | .ite c a b => match s with
    | .If e x y _ => rec nm cs (.T e c) && (rec nm cs (.Ss x a) && rec nm cs (.Ss y b))
    | _ => false
  | .for_ ptg pit pb => match s with
    | .For tg iter body [] _ => noSet iter && (rec nm cs (.I tg iter pit) && (rec nm cs (.G tg ptg) && rec nm cs (.Ss body pb)))
    | _ => false
  | .while_ c pb => match s with
    | .While e body [] _ => rec nm cs (.T e c) && rec nm cs (.Ss body pb)
    | _ => false
  | .asg (.var i) q => match s with
    | .Assign [.Name x px] e _ => decide (C.N[i]? = some x) && (tgB nm cs x && (noSD e && (if swB nm e x px then decide (nm.lookup x = some .local) && rec nm cs (.Q e q) else rec nm cs (.E e q))))
    | _ => false
  | .asg (.tup ps) q => match s with
    | .Assign [.Tuple ts k pt] e _ => noTup e && (noSD e && (rec nm cs (.E e q) && rec nm cs (.G (.Tuple ts k pt) (.tup ps))))
    | _ => false
  | .par is ps => match s with
    | .Assign [.Tuple ts _ _] (.Tuple es _ _) _ => match namesOf ts with
      | some L => namesB C nm cs L is && (es.all noStar && (rec nm cs (.Os es ps) && (if parNone nm L es then decide (ps.length ≤ 1000) && decide (ps.length = is.length) else parSome nm L es && (match L, is, es with
        | [q1, q2], [i, j], [_, _] => decide (nm.lookup q1.1 = some .local) && (decide (nm.lookup q2.1 = some .local) && decide (i ≠ j))
        | [q1, q2, q3], [i, j, l], [_, _, _] => decide (nm.lookup q1.1 = some .local) && (decide (nm.lookup q2.1 = some .local) && (decide (nm.lookup q3.1 = some .local) && (decide (i ≠ j) && (decide (i ≠ l) && decide (j ≠ l)))))
        | _, _, _ => false))))
      | none => false
    | _ => false
  | .aug i .add q => match s with
    | .AugAssign (.Name x _) .Add e _ => decide (C.N[i]? = some x) && (tgB nm cs x && rec nm cs (.E e q))
    | _ => false
  | .aug i .sub q => match s with
    | .AugAssign (.Name x _) .Sub e _ => decide (C.N[i]? = some x) && (tgB nm cs x && rec nm cs (.E e q))
    | _ => false
  | .app j q => match s with
    | .Expr (.Call (.Attribute (.Name x _) m apos) [e] [] cpos) _ => decide (m = ("append" : Str)) && (nameB C nm x j && (noStar e && ((apos.endLine == cpos.line) && rec nm cs (.E e q))))
    | _ => false
  | .ext j q => match s with
    | .Expr (.Call (.Attribute (.Name x _) m apos) [e] [] cpos) _ => decide (m = ("extend" : Str)) && (nameB C nm x j && (noStar e && ((apos.endLine == cpos.line) && rec nm cs (.E e q))))
    | _ => false
  | .put j i q => match s with
    | .Assign [.Subscript (.Name x _) ie _] e _ => nameB C nm x j && (noSlice ie && (noSD e && (rec nm cs (.E e q) && rec nm cs (.E ie i))))
    | _ => false
  | _ => false
def ck1 (rec : Rec) : Job → Bool
  | .E e p => ckE C nm cs rec e p
  | .Q e p => ckQ C nm cs rec e p
  | .C e p => ckC nm cs rec e p
  | .A e p => ckA C nm cs rec e p
  | .Es [] [] => true
  | .Es (e :: es) (p :: ps) => rec nm cs (.E e p) && rec nm cs (.Es es ps)
  | .As [] [] => true
  | .As (e :: es) (p :: ps) => rec nm cs (.A e p) && rec nm cs (.As es ps)
  | .Os [] [] => true
  | .Os (e :: es) (p :: ps) => rec nm cs (.E e p) && rec nm cs (.Os es ps)
  | .T e p => ckT nm cs rec e p
  | .W e p => ckW nm cs rec e p
  | .P none false _ => true
  | .P (some e) true p => rec nm cs (.E e p)
  | .I tg e p => ckI C nm cs rec tg e p
  | .F [] (.bl true) => true
  | .F [c] p => rec nm cs (.T c p)
  | .G (.Name x _) (.var i) => decide (C.N[i]? = some x) && tgB nm cs x
  | .G (.Tuple ts _ _) (.tup ps) => ts.all noStar && (decide (ts.length = ps.length) && rec nm cs (.Gs ts ps))
  | .Gs [] [] => true
  | .Gs (t :: ts) (p :: ps) => noStar t && (rec nm cs (.G t p) && rec nm cs (.Gs ts ps))
  | .S s p => ckS C nm cs rec s p
  | .Ss [] [] => true
  | .Ss (s :: ss) (p :: ps) => rec nm cs (.S s p) && rec nm cs (.Ss ss ps)
  | _ => false
end
def chk (C : Ck) : Nat → Rec
  | 0 => fun _ _ _ => false
  | n + 1 => fun nm cs j => ck1 C nm cs (chk C n) j
end PL
end

section
set_option Elab.async false
set_option linter.all false
set_option maxRecDepth 100000
set_option autoImplicit false
/-! SE14: what the check passes does what the interpreter tells. -/
namespace PL
open PySem PySem.Spec PyProof.Rows
open L2 (V Hp HO upd upd_same upd_ne SqL SqT Rd Same Cx OpR UnR CallR R2 VK Inv EP RelV FnOk Sp Room)

section
variable {C : Ck} {S : Stat} {rec : Rec}
def IH (C : Ck) (rec : Rec) : Prop := ∀ S, Good C S → ∀ j, rec S.nm S.cs j = true → Holds S j
theorem and2 {a b : Bool} (h : (a && b) = true) : a = true ∧ b = true := by simpa using h
theorem nameB_pe (g : Good C S) {x : Str} {i : Nat} {pos : Pos} (h : nameB C S.nm x i = true) : PEc S (.Name x pos) (L2.tVar i) := by
  unfold nameB at h
  obtain ⟨h1, h⟩ := and2 h
  obtain ⟨h2, h⟩ := and2 h
  obtain ⟨h3, h4⟩ := and2 h
  refine pec_var ?_ h2 (by simpa using h3) (by simpa using h4)
  rw [g.N]
  exact of_decide_eq_true h1
theorem bltB_ok (g : Good C S) {x : Str} (h : bltB C S.nm x = true) : glN S.nm x = true ∧ S.mg x = none := by
  unfold bltB at h
  obtain ⟨h1, h2⟩ := and2 h
  exact ⟨h1, g.non x (by simpa using h2)⟩
theorem ckB_ok (g : Good C S) (ih : IH C rec) {e : Expr} {o : Op} {ps : List PE} (h : ckB C S.nm S.cs rec e o ps = true) : SE S e (.op o ps) := by
  unfold ckB at h
  split at h
  · split at h
    · rename_i y k _ hb
      obtain ⟨h1, h⟩ := and2 h
      obtain ⟨h2, h⟩ := and2 h
      obtain ⟨h3, h⟩ := and2 h
      obtain ⟨h4, h5⟩ := and2 h
      obtain rfl := of_decide_eq_true h1
      obtain ⟨b1, b2⟩ := bltB_ok g h3
      exact se_blt g.hu hb (of_decide_eq_true h2) (ih S g _ h5) b1 b2 h4
    · rename_i t _ hb
      split at h
      · obtain ⟨h1, h⟩ := and2 h
        obtain ⟨h2, h⟩ := and2 h
        obtain ⟨h3, h⟩ := and2 h
        obtain ⟨h4, h⟩ := and2 h
        obtain ⟨h5, h6⟩ := and2 h
        obtain rfl := of_decide_eq_true h1
        obtain rfl := of_decide_eq_true h2
        obtain ⟨b1, b2⟩ := bltB_ok g h3
        obtain ⟨b3, b4⟩ := bltB_ok g h4
        exact se_isT hb (ih S g _ h6) b1 b2 b3 b4 h5
      · cases h
    · cases h
  · cases h
theorem ckOp_ok (g : Good C S) (ih : IH C rec) {e : Expr} {o : Op} {ps : List PE} (h : ckOp C S.nm S.cs rec e o ps = true) : SE S e (.op o ps) := by
  unfold ckOp at h
  split at h
  · obtain ⟨h1, h⟩ := and2 h
    obtain ⟨h2, h3⟩ := and2 h
    exact se_binOk h1 (ih S g _ h2) (ih S g _ h3)
  · obtain ⟨h1, h⟩ := and2 h
    obtain ⟨h0, h⟩ := and2 h
    obtain ⟨h2, h3⟩ := and2 h
    exact se_cmpOk g.hu h1 (by simpa using h0) (ih S g _ h2) (ih S g _ h3)
  · obtain ⟨h1, h2⟩ := and2 h
    exact se_isOk h1 (ih S g _ h2)
  · split at h
    · exact se_neg (ih S g _ h)
    · cases h
  · split at h
    · obtain ⟨h1, h⟩ := and2 h
      obtain ⟨h2, h3⟩ := and2 h
      exact se_ix (by have := g.hu; omega) h1 (ih S g _ h2) (ih S g _ h3)
    · cases h
  · split at h
    · rename_i x _ y _ a _ _ pa tp
      obtain ⟨h1, h⟩ := and2 h
      obtain ⟨h2, h⟩ := and2 h
      obtain ⟨h3, h⟩ := and2 h
      obtain ⟨h4, h⟩ := and2 h
      obtain ⟨h5, h6⟩ := and2 h
      have h1 := of_decide_eq_true h1
      obtain rfl := of_decide_eq_true h2
      obtain ⟨b1, b2⟩ := bltB_ok g h3
      obtain ⟨b3, b4⟩ := bltB_ok g h4
      cases tp with
      | true =>
        subst h1
        exact se_rgT1 (ih S g _ h6) h5 b3 b4 b1 b2
      | false =>
        subst h1
        exact se_rgL1 (ih S g _ h6) h5 b3 b4 b1 b2
    · exact ckB_ok g ih h
  · split at h
    · rename_i x _ y _ a b _ _ pa pb tp
      obtain ⟨h1, h⟩ := and2 h
      obtain ⟨h2, h⟩ := and2 h
      obtain ⟨h3, h⟩ := and2 h
      obtain ⟨h4, h⟩ := and2 h
      obtain ⟨h5, h⟩ := and2 h
      obtain ⟨h5', h⟩ := and2 h
      obtain ⟨h6, h7⟩ := and2 h
      have h1 := of_decide_eq_true h1
      obtain rfl := of_decide_eq_true h2
      obtain ⟨b1, b2⟩ := bltB_ok g h3
      obtain ⟨b3, b4⟩ := bltB_ok g h4
      cases tp with
      | true =>
        subst h1
        exact se_rgT2 (ih S g _ h6) (ih S g _ h7) h5 h5' b3 b4 b1 b2
      | false =>
        subst h1
        exact se_rgL2 (ih S g _ h6) (ih S g _ h7) h5 h5' b3 b4 b1 b2
    · exact ckB_ok g ih h
  · split at h
    · rename_i x _ y _ a b c _ _ pa pb pc
      obtain ⟨h1, h⟩ := and2 h
      obtain ⟨h2, h⟩ := and2 h
      obtain ⟨h3, h⟩ := and2 h
      obtain ⟨h4, h⟩ := and2 h
      obtain ⟨h5, h⟩ := and2 h
      obtain ⟨h6, h⟩ := and2 h
      obtain ⟨h7, h⟩ := and2 h
      obtain ⟨h8, h⟩ := and2 h
      obtain ⟨h9, h10⟩ := and2 h
      obtain rfl := of_decide_eq_true h1
      obtain rfl := of_decide_eq_true h2
      obtain ⟨b1, b2⟩ := bltB_ok g h3
      obtain ⟨b3, b4⟩ := bltB_ok g h4
      exact se_z3 (ih S g _ h8) (ih S g _ h9) (ih S g _ h10) h5 h6 h7 b3 b4 b1 b2
    · exact ckB_ok g ih h
  · exact ckB_ok g ih h
theorem sub_all {xs ys : List Nat} (h : (xs.all fun i => ys.contains i) = true) : ∀ i ∈ xs, i ∈ ys := fun i hi => by
  simpa using List.all_eq_true.mp h i hi
theorem ckQ_ok (g : Good C S) (ih : IH C rec) {e : Expr} {p : PE} (h : ckQ C S.nm S.cs rec e p = true) : SEC S e p := by
  unfold ckQ at h
  split at h
  · rename_i elt tg iter ifs scope pos pelt vs ptg pit pc
    obtain ⟨h1, h⟩ := and2 h
    obtain ⟨h2, h⟩ := and2 h
    obtain ⟨h3, h⟩ := and2 h
    obtain ⟨h4, h⟩ := and2 h
    obtain ⟨h5, h⟩ := and2 h
    obtain ⟨h6, h⟩ := and2 h
    obtain ⟨h7, h8⟩ := and2 h
    rw [← g.N] at h2
    obtain ⟨hk, ok⟩ := blkB_ok h2
    have ih' : ∀ j, rec (relN S.nm scope.names) (csOf scope) j = true → Holds (S.blk scope) j := fun j => ih (S.blk scope) (g.blk scope) j
    exact sec_comp g.nd ok (of_decide_eq_true h1) (ih S g _ h5) (ih' _ h6) (ih' _ h7) (SE.d (ih' _ h8)) h3 hk (sub_all h4)
  · rename_i elt tg iter ifs tg1 iter1 ifs1 scope pos pelt vs ptg pit pc ptg1 pit1 pc1
    obtain ⟨h1, h⟩ := and2 h
    obtain ⟨h2, h⟩ := and2 h
    obtain ⟨h3, h⟩ := and2 h
    obtain ⟨h3', h⟩ := and2 h
    obtain ⟨h4, h⟩ := and2 h
    obtain ⟨h4', h⟩ := and2 h
    obtain ⟨h5, h⟩ := and2 h
    obtain ⟨h6, h⟩ := and2 h
    obtain ⟨h7, h⟩ := and2 h
    obtain ⟨h8, h⟩ := and2 h
    obtain ⟨h9, h⟩ := and2 h
    obtain ⟨h10, h11⟩ := and2 h
    rw [← g.N] at h2
    obtain ⟨hk, ok⟩ := blkB_ok h2
    have ih' : ∀ j, rec (relN S.nm scope.names) (csOf scope) j = true → Holds (S.blk scope) j := fun j => ih (S.blk scope) (g.blk scope) j
    exact sec_comp2 g.nd ok (of_decide_eq_true h1) (ih S g _ h5) (ih' _ h6) (ih' _ h7) (ih' _ h8) (ih' _ h9) (ih' _ h10) (SE.d (ih' _ h11)) h3 h3' hk (sub_all h4) (sub_all h4')
  · cases h
theorem ckC_ok (g : Good C S) (ih : IH C rec) {e : Expr} {p : PE} (h : ckC S.nm S.cs rec e p = true) : SE S e p := by
  unfold ckC at h
  split at h
  · exact se_one (ih S g _ h)
  · split at h
    · obtain ⟨h1, h2⟩ := and2 h
      exact se_and (ih S g _ h1) (ih S g _ h2)
    · cases h
  · split at h
    · obtain ⟨h1, h2⟩ := and2 h
      exact se_or (ih S g _ h1) (ih S g _ h2)
    · cases h
  · cases h
theorem ckE_ok (g : Good C S) (ih : IH C rec) {e : Expr} {p : PE} (h : ckE C S.nm S.cs rec e p = true) : SE S e p := by
  cases p with
  | var i =>
    dsimp only [ckE] at h
    split at h
    · exact se_var (nameB_pe g h)
    · cases h
  | int n =>
    dsimp only [ckE] at h
    split at h
    · obtain rfl := of_decide_eq_true h
      exact se_int
    · cases h
  | bl b =>
    dsimp only [ckE] at h
    split at h
    · rename_i c _ _
      obtain rfl : c = b := by simpa using h
      exact se_bl
    · cases h
  | non =>
    dsimp only [ckE] at h
    split at h
    · exact se_non
    · cases h
  | str t =>
    dsimp only [ckE] at h
    split at h
    · obtain rfl := of_decide_eq_true h
      exact se_str
    · cases h
  | tup ps =>
    dsimp only [ckE] at h
    split at h
    · obtain ⟨h1, h⟩ := and2 h
      obtain ⟨h2, h3⟩ := and2 h
      exact se_tup (ih S g _ h3) h1 (of_decide_eq_true h2)
    · cases h
  | lst ps =>
    dsimp only [ckE] at h
    split at h
    · obtain ⟨h1, h⟩ := and2 h
      obtain ⟨h2, h3⟩ := and2 h
      exact se_lst (ih S g _ h3) h1 (of_decide_eq_true h2)
    · cases h
  | dct =>
    dsimp only [ckE] at h
    split at h
    · exact se_dct
    · cases h
  | op o ps => exact ckOp_ok g ih h
  | slc as bl lo bh hi =>
    match as, h with
    | [pa], h =>
      dsimp only [ckE] at h
      split at h
      · obtain ⟨h1, h⟩ := and2 h
        obtain ⟨h2, h3⟩ := and2 h
        exact se_slc (ih S g _ h1) (ih S g _ h2) (ih S g _ h3)
      · cases h
    | [], h => cases h
    | _ :: _ :: _, h => cases h
  | call f ps =>
    dsimp only [ckE] at h
    split at h
    · obtain ⟨h1, h⟩ := and2 h
      obtain ⟨h2, h⟩ := and2 h
      obtain ⟨h3, h⟩ := and2 h
      obtain ⟨h4, h5⟩ := and2 h
      exact se_call (g.fn _ _ (by simpa using h1)) (ih S g _ h5) h2 h4 (by simpa using h3)
    · obtain ⟨⟨x', f', m, ks⟩, hq, h⟩ := List.any_eq_true.mp h
      obtain ⟨h1, h⟩ := and2 h
      obtain ⟨h2, h⟩ := and2 h
      obtain ⟨h3, h⟩ := and2 h
      obtain ⟨h4, h⟩ := and2 h
      obtain ⟨h5, h⟩ := and2 h
      obtain ⟨h6, h⟩ := and2 h
      obtain ⟨h7, h⟩ := and2 h
      obtain ⟨h8, h⟩ := and2 h
      obtain ⟨h9, h⟩ := and2 h
      obtain ⟨h10, h11⟩ := and2 h
      have h1 := of_decide_eq_true h1
      have h2 := of_decide_eq_true h2
      dsimp only at h1 h2
      subst h1 h2
      have eq : ∀ {n : Nat}, PE.call f' ps = PE.call f' (List.take n ps ++ List.drop n ps) := by
        intro n
        rw [List.take_append_drop]
      rw [eq]
      exact se_callK (g.kfn _ _ _ _ hq) (ih S g _ h10) (ih S g _ h11) (of_decide_eq_true h8) (of_decide_eq_true h9) (of_decide_eq_true h3) (of_decide_eq_true h4) h5 h7 (by simpa using h6)
    · cases h
  | and a b => exact ih S g (.C e _) h
  | or a b => exact ih S g (.C e _) h
  | not a =>
    dsimp only [ckE] at h
    split at h
    · exact se_not (ih S g _ h)
    · cases h
  | ifx c a b =>
    dsimp only [ckE] at h
    split at h
    · obtain ⟨h1, h⟩ := and2 h
      obtain ⟨h2, h3⟩ := and2 h
      exact se_ifx (ih S g _ h1) (ih S g _ h2) (ih S g _ h3)
    · cases h
  | pop j =>
    dsimp only [ckE] at h
    split at h
    · obtain ⟨h1, h⟩ := and2 h
      obtain ⟨h2, h3⟩ := and2 h
      obtain rfl := of_decide_eq_true h1
      exact se_pop (nameB_pe g h2) h3
    · cases h
  | popAt j q =>
    dsimp only [ckE] at h
    split at h
    · obtain ⟨h1, h⟩ := and2 h
      obtain ⟨h2, h⟩ := and2 h
      obtain ⟨h3, h⟩ := and2 h
      obtain ⟨h4, h5⟩ := and2 h
      obtain rfl := of_decide_eq_true h1
      exact se_popAt (nameB_pe g h2) (SE.d (ih S g _ h5)) h3 h4
    · cases h
  | comp _ _ _ _ _ => exact SEC.se (ih S g (.Q e _) h)
  | comp2 _ _ _ _ _ _ _ _ => exact SEC.se (ih S g (.Q e _) h)
theorem ckA_ok (g : Good C S) (ih : IH C rec) {e : Expr} {p : PE} (h : ckA C S.nm S.cs rec e p = true) : SG S e p := by
  unfold ckA at h
  split at h
  · split at h
    · exact SG.var (nameB_pe g h)
    · cases h
  · rename_i hn
    exact SG.of (SE.d (ih S g _ h)) fun j e => hn j e
theorem ckT_ok (g : Good C S) (ih : IH C rec) {e : Expr} {p : PE} (h : ckT S.nm S.cs rec e p = true) : STt S e p := by
  unfold ckT at h
  split at h
  · rename_i ht
    exact SE.tt (ih S g _ h) ht
  · split at h
    · split at h
      · exact st_not (ih S g _ h)
      · cases h
    · exact SW.tt (ih S g _ h)
    · cases h
theorem ckW_ok (g : Good C S) (ih : IH C rec) {e : Expr} {p : PE} (h : ckW S.nm S.cs rec e p = true) : SW S e p := by
  unfold ckW at h
  split at h
  · exact sw_and1 (ih S g _ h)
  · exact sw_or1 (ih S g _ h)
  · split at h
    · obtain ⟨h1, h2⟩ := and2 h
      exact sw_and (ih S g _ h1) (ih S g _ h2)
    · cases h
  · split at h
    · obtain ⟨h1, h2⟩ := and2 h
      exact sw_or (ih S g _ h1) (ih S g _ h2)
    · cases h
  · cases h
theorem ckI_ok (g : Good C S) (ih : IH C rec) {tg e : Expr} {p : PIt} (h : ckI C S.nm S.cs rec tg e p = true) : SI S tg e p := by
  unfold ckI at h
  split at h
  · exact si_e (SE.d (ih S g _ h))
  · split at h
    · obtain ⟨h1, h⟩ := and2 h
      obtain ⟨h2, h⟩ := and2 h
      obtain ⟨h3, h4⟩ := and2 h
      obtain rfl := of_decide_eq_true h1
      obtain ⟨b1, b2⟩ := bltB_ok g h2
      exact si_range1 (SE.d (ih S g _ h4)) h3 b1 b2
    · cases h
  · split at h
    · obtain ⟨h1, h⟩ := and2 h
      obtain ⟨h2, h⟩ := and2 h
      obtain ⟨h3, h⟩ := and2 h
      obtain ⟨h4, h⟩ := and2 h
      obtain ⟨h5, h6⟩ := and2 h
      obtain rfl := of_decide_eq_true h1
      obtain ⟨b1, b2⟩ := bltB_ok g h2
      exact si_range2 (SE.d (ih S g _ h5)) (SE.d (ih S g _ h6)) h3 h4 b1 b2
    · cases h
  · split at h
    · obtain ⟨h1, h⟩ := and2 h
      obtain ⟨h2, h⟩ := and2 h
      obtain ⟨h3, h⟩ := and2 h
      obtain ⟨h4, h⟩ := and2 h
      obtain ⟨h5, h⟩ := and2 h
      obtain ⟨h6, h⟩ := and2 h
      obtain ⟨h7, h8⟩ := and2 h
      obtain rfl := of_decide_eq_true h1
      obtain ⟨b1, b2⟩ := bltB_ok g h2
      exact si_range3 (SE.d (ih S g _ h6)) (SE.d (ih S g _ h7)) (SE.d (ih S g _ h8)) h3 h4 h5 b1 b2
    · cases h
  · split at h
    · obtain ⟨h1, h⟩ := and2 h
      obtain ⟨h2, h⟩ := and2 h
      obtain ⟨h3, h4⟩ := and2 h
      obtain rfl := of_decide_eq_true h1
      obtain ⟨b1, b2⟩ := bltB_ok g h2
      exact si_enum (SE.d (ih S g _ h4)) h3 b1 b2
    · cases h
  · split at h
    · obtain ⟨h1, h⟩ := and2 h
      obtain ⟨h2, h⟩ := and2 h
      obtain ⟨h3, h⟩ := and2 h
      obtain ⟨h4, h⟩ := and2 h
      obtain ⟨h5, h6⟩ := and2 h
      obtain rfl := of_decide_eq_true h1
      obtain ⟨b1, b2⟩ := bltB_ok g h2
      exact si_zip2 (SE.d (ih S g _ h5)) (SE.d (ih S g _ h6)) h3 h4 b1 b2
    · cases h
  · cases h
theorem namesB_ok (g : Good C S) : ∀ {L : List (Str × Pos)} {is : List Nat}, namesB C S.nm S.cs L is = true → namesOk S L is = true
  | [], [], _ => rfl
  | q :: L, i :: is, h => by
    obtain ⟨h1, h⟩ := and2 h
    obtain ⟨h2, h3⟩ := and2 h
    unfold namesOk
    rw [g.N, h1, Bool.true_and, Bool.and_eq_true]
    exact ⟨h2, namesB_ok g h3⟩
  | [], _ :: _, h => by cases h
  | _ :: _, [], h => by cases h
theorem namesOf_ok : ∀ {ts : List Expr} {L : List (Str × Pos)}, namesOf ts = some L → ts = L.map nmE
  | [], L, h => by cases h; rfl
  | .Name x p :: r, L, h => by
    unfold namesOf at h
    obtain ⟨M, e, rfl⟩ := Option.map_eq_some_iff.mp h
    rw [List.map_cons, namesOf_ok e]
    rfl
  | .BoolOp _ _ _ :: _, _, h => by cases h
  | .NamedExpr _ _ _ :: _, _, h => by cases h
  | .BinOp _ _ _ _ :: _, _, h => by cases h
  | .UnaryOp _ _ _ :: _, _, h => by cases h
  | .Lambda _ _ _ _ :: _, _, h => by cases h
  | .IfExp _ _ _ _ :: _, _, h => by cases h
  | .Dict _ _ _ :: _, _, h => by cases h
  | .Set _ _ _ :: _, _, h => by cases h
  | .ListComp _ _ _ _ :: _, _, h => by cases h
  | .SetComp _ _ _ _ :: _, _, h => by cases h
  | .DictComp _ _ _ _ _ :: _, _, h => by cases h
  | .GeneratorExp _ _ _ _ :: _, _, h => by cases h
  | .Await _ _ :: _, _, h => by cases h
  | .Yield _ _ :: _, _, h => by cases h
  | .YieldFrom _ _ :: _, _, h => by cases h
  | .Compare _ _ _ _ :: _, _, h => by cases h
  | .Call _ _ _ _ :: _, _, h => by cases h
  | .FormattedValue _ _ _ _ :: _, _, h => by cases h
  | .JoinedStr _ _ :: _, _, h => by cases h
  | .Constant _ _ _ :: _, _, h => by cases h
  | .Attribute _ _ _ :: _, _, h => by cases h
  | .Subscript _ _ _ :: _, _, h => by cases h
  | .Starred _ _ :: _, _, h => by cases h
  | .List _ _ :: _, _, h => by cases h
  | .Tuple _ _ _ :: _, _, h => by cases h
  | .Slice _ _ _ _ :: _, _, h => by cases h
theorem ckS_ok (g : Good C S) (ih : IH C rec) {s : Stmt} {p : PS} (h : ckS C S.nm S.cs rec s p = true) : SS S s p := by
  unfold ckS at h
  split at h
  · split at h
    · exact ss_pass
    · exact ss_doc
    · cases h
  · split at h
    · exact ss_brk
    · cases h
  · split at h
    · exact ss_cont
    · cases h
  · split at h
    · obtain ⟨h1, h2⟩ := and2 h
      exact ss_expr (ih S g _ h2) h1
    · cases h
  · split at h
    · exact ss_ret (ih S g _ h)
    · cases h
  · split at h
    · exact ss_retMv (nameB_pe g h)
    · cases h
  · split at h
    · exact ss_retN
    · cases h
  · split at h
    · obtain ⟨h1, h⟩ := and2 h
      obtain ⟨h2, h3⟩ := and2 h
      exact ss_ite (ih S g _ h1) (ih S g _ h2) (ih S g _ h3)
    · cases h
  · split at h
    · obtain ⟨h1, h⟩ := and2 h
      obtain ⟨h2, h⟩ := and2 h
      obtain ⟨h3, h4⟩ := and2 h
      exact ss_for (ih S g _ h2) (ih S g _ h3) (ih S g _ h4) h1
    · cases h
  · split at h
    · obtain ⟨h1, h2⟩ := and2 h
      exact ss_while (ih S g _ h1) (ih S g _ h2)
    · cases h
  · split at h
    · rename_i x px e pos
      obtain ⟨h1, h⟩ := and2 h
      obtain ⟨h2, h⟩ := and2 h
      obtain ⟨h3, h⟩ := and2 h
      have h1 := of_decide_eq_true h1
      rw [← g.N] at h1
      split at h
      · rename_i hs
        obtain ⟨h4, h5⟩ := and2 h
        exact ss_asgC (ih S g _ h5) h1 (of_decide_eq_true h4) fun X hX => by rw [swB_ok h3 hX, hs]
      · rename_i hs
        exact ss_asg (ih S g _ h) g.nd h1 h2 fun X hX => by rw [swB_ok h3 hX]; simp only [Bool.not_eq_true] at hs; rw [hs]
    · cases h
  · split at h
    · obtain ⟨h1, h⟩ := and2 h
      obtain ⟨h2, h⟩ := and2 h
      obtain ⟨h3, h4⟩ := and2 h
      exact ss_asgT (SE.d (ih S g _ h3)) (ih S g _ h4) h1 h2
    · cases h
  · rename_i is ps
    split at h
    · rename_i ts kt pt es k2 pt2 pos
      split at h
      · rename_i L hL
        obtain rfl := namesOf_ok hL
        obtain ⟨h1, h⟩ := and2 h
        obtain ⟨h2, h⟩ := and2 h
        obtain ⟨h3, h⟩ := and2 h
        have h1 := namesB_ok g h1
        split at h
        · rename_i hp
          obtain ⟨h4, h5⟩ := and2 h
          exact ss_par (ih S g _ h3) g.nd h1 h2 hp (of_decide_eq_true h4) (of_decide_eq_true h5)
        · obtain ⟨h4, h⟩ := and2 h
          split at h
          · obtain ⟨h5, h⟩ := and2 h
            obtain ⟨h6, h7⟩ := and2 h
            exact ss_par2 (ih S g _ h3) g.nd h1 h2 h4 (of_decide_eq_true h5) (of_decide_eq_true h6) (of_decide_eq_true h7)
          · obtain ⟨h5, h⟩ := and2 h
            obtain ⟨h6, h⟩ := and2 h
            obtain ⟨h7, h⟩ := and2 h
            obtain ⟨h8, h⟩ := and2 h
            obtain ⟨h9, h10⟩ := and2 h
            exact ss_par3 (ih S g _ h3) g.nd h1 h2 h4 (of_decide_eq_true h5) (of_decide_eq_true h6) (of_decide_eq_true h7) (of_decide_eq_true h8) (of_decide_eq_true h9) (of_decide_eq_true h10)
          · cases h
      · cases h
    · cases h
  · split at h
    · obtain ⟨h1, h⟩ := and2 h
      obtain ⟨h2, h3⟩ := and2 h
      have h1 := of_decide_eq_true h1
      rw [← g.N] at h1
      exact ss_augAdd (SE.d (ih S g _ h3)) g.nd h1 h2
    · cases h
  · split at h
    · obtain ⟨h1, h⟩ := and2 h
      obtain ⟨h2, h3⟩ := and2 h
      have h1 := of_decide_eq_true h1
      rw [← g.N] at h1
      exact ss_augSub (SE.d (ih S g _ h3)) g.nd h1 h2
    · cases h
  · split at h
    · obtain ⟨h1, h⟩ := and2 h
      obtain ⟨h2, h⟩ := and2 h
      obtain ⟨h3, h⟩ := and2 h
      obtain ⟨h4, h5⟩ := and2 h
      obtain rfl := of_decide_eq_true h1
      exact ss_app (nameB_pe g h2) (SE.d (ih S g _ h5)) h3 h4
    · cases h
  · split at h
    · obtain ⟨h1, h⟩ := and2 h
      obtain ⟨h2, h⟩ := and2 h
      obtain ⟨h3, h⟩ := and2 h
      obtain ⟨h4, h5⟩ := and2 h
      obtain rfl := of_decide_eq_true h1
      exact ss_ext (nameB_pe g h2) (SE.d (ih S g _ h5)) h3 h4
    · cases h
  · split at h
    · obtain ⟨h1, h⟩ := and2 h
      obtain ⟨h2, h⟩ := and2 h
      obtain ⟨h3, h⟩ := and2 h
      obtain ⟨h4, h5⟩ := and2 h
      exact ss_put (by have := g.hu; omega) (nameB_pe g h1) (SE.d (ih S g _ h4)) (SE.d (ih S g _ h5)) h2 h3
    · cases h
  · cases h
theorem ck1_ok (ih : IH C rec) (g : Good C S) (j : Job) (h : ck1 C S.nm S.cs rec j = true) : Holds S j := by
  unfold ck1 at h
  split at h
  · exact ckE_ok g ih h
  · exact ckQ_ok g ih h
  · exact ckC_ok g ih h
  · exact ckA_ok g ih h
  · exact SDs.nil
  · obtain ⟨h1, h2⟩ := and2 h
    exact SDs.cons (SE.d (ih S g _ h1)) (ih S g _ h2)
  · exact SGs.nil
  · obtain ⟨h1, h2⟩ := and2 h
    exact SGs.cons (ih S g _ h1) (ih S g _ h2)
  · exact SOs.nil
  · obtain ⟨h1, h2⟩ := and2 h
    exact SOs.cons (ih S g _ h1) (ih S g _ h2)
  · exact ckT_ok g ih h
  · exact ckW_ok g ih h
  · exact part_none
  · exact part_some (SE.d (ih S g _ h))
  · exact ckI_ok g ih h
  · exact sf_nil
  · exact sf_one (ih S g _ h)
  · obtain ⟨h1, h2⟩ := and2 h
    have h1 := of_decide_eq_true h1
    rw [← g.N] at h1
    exact sg_var g.nd h1 h2
  · obtain ⟨h1, h⟩ := and2 h
    obtain ⟨h2, h3⟩ := and2 h
    exact sg_tup (ih S g _ h3) h1 (of_decide_eq_true h2)
  · exact sgs_nil
  · obtain ⟨h1, h⟩ := and2 h
    obtain ⟨h2, h3⟩ := and2 h
    exact sgs_cons (ih S g _ h2) (ih S g _ h3) h1
  · exact ckS_ok g ih h
  · exact sss_nil
  · obtain ⟨h1, h2⟩ := and2 h
    exact sss_cons (ih S g _ h1) (ih S g _ h2)
  · cases h
theorem chk_ok : ∀ (n : Nat), IH C (chk C n)
  | 0, _, _, _, h => by cases h
  | n + 1, _, g, j, h => ck1_ok (chk_ok n) g j h
end
end PL
end

section
set_option Elab.async false
set_option linter.all false
set_option maxRecDepth 100000
set_option autoImplicit false
/-! SE15: a whole text: every def at every depth of calls; the law. -/
namespace PL
open PySem PySem.Spec PyProof.Rows
open L2 (V Hp HO upd upd_same upd_ne SqL SqT Rd Same Cx OpR UnR CallR R2 VK Inv EP RelV FnOk Sp Room Vals)

/-- a def: its name, number, small form, slots, parameters, text; the keywords that it is called with -/
structure Ent where
  x : Str
  f : Nat
  p : PDef
  N : List Str
  ps : List Str
  st : Stmt
  kws : List (Nat × List Str)
/-- how it stands behind the top -/
def EntAt (K : PySem.W.Frag) (mg : Str → Option Value) (e : Ent) : Prop := ∃ (a : Addr) (oc : Value) (od : Option Addr) (kV doc pm : Value) (an : Option Addr) (cdv ct : Value) (osl : Array (Option Value)),
  mg e.x = some (.ref a) ∧ PySem.W.keepIn K (.ref a) = true ∧ K.lookup a = some ⟨oc, od, .func (PySem.W.fnOf e.x e.x (L2.defArgs e.st) (L2.defBody e.st) (L2.defScope e.st) .none kV doc pm an cdv ct), osl⟩ ∧ PySem.W.codeIn K cdv e.x = true
/-- what is told by the text alone -/
structure EntOk (fns : List (Str × Nat)) (kfns : List (Str × Nat × Nat × List Str)) (non : List Str) (fuel : Nat) (e : Ent) : Prop where
  scope : L2.FnScope e.N e.ps (L2.defScope e.st)
  np : e.p.np = e.ps.length
  ns : e.p.ns = e.N.length
  bind : ∀ (kV doc pm : Value) (an : Option Addr) (cdv ct : Value) (us : List Value), us.length = e.ps.length → bindArgs (PySem.W.fnOf e.x e.x (L2.defArgs e.st) (L2.defBody e.st) (L2.defScope e.st) .none kV doc pm an cdv ct) ⟨us, []⟩ = pure (e.ps.zip us)
  kbind : ∀ m ks, (m, ks) ∈ e.kws → ∀ (kV doc pm : Value) (an : Option Addr) (cdv ct : Value) (us ws : List Value), us.length = m → ws.length = ks.length → bindArgs (PySem.W.fnOf e.x e.x (L2.defArgs e.st) (L2.defBody e.st) (L2.defScope e.st) .none kV doc pm an cdv ct) ⟨us, ks.zip ws⟩ = pure (e.ps.zip (us ++ ws))
  ps : e.kws = [] ∨ 0 < e.ps.length
  chk : chk ⟨e.N, fns, kfns, non⟩ fuel (L2.defScope e.st).names (fun _ => true) (.Ss (L2.defBody e.st) e.p.body) = true
section
variable {P : Program} {w : World} {K : PySem.W.Frag} {mg : Str → Option Value} {base : Heap} {ents : List Ent} {fns : List (Str × Nat)} {kfns : List (Str × Nat × Nat × List Str)} {non : List Str} {fuel wf : Nat} {defs : Nat → Option PDef}
theorem all_ok (hd : ∀ e ∈ ents, defs e.f = some e.p) (stat : ∀ e ∈ ents, EntOk fns kfns non fuel e) (at_ : ∀ e ∈ ents, EntAt K mg e) (hnon : ∀ x ∈ non, mg x = none) (hf : ∀ x f, (x, f) ∈ fns → ∃ e ∈ ents, e.x = x ∧ e.f = f) (hkf : ∀ x f m ks, (x, f, m, ks) ∈ kfns → ∃ e ∈ ents, e.x = x ∧ e.f = f ∧ (m, ks) ∈ e.kws) :
    ∀ n, ∀ e ∈ ents, ∀ (a : Addr) (oc : Value) (od : Option Addr) (kV doc pm : Value) (an : Option Addr) (cdv ct : Value) (osl : Array (Option Value)),
      K.lookup a = some ⟨oc, od, .func (PySem.W.fnOf e.x e.x (L2.defArgs e.st) (L2.defBody e.st) (L2.defScope e.st) .none kV doc pm an cdv ct), osl⟩ → PySem.W.codeIn K cdv e.x = true →
      FnOk P w K mg base L2.CX0 n a (PySem.W.fnOf e.x e.x (L2.defArgs e.st) (L2.defBody e.st) (L2.defScope e.st) .none kV doc pm an cdv ct) e.ps (spOf K ((tbl wf defs n).f e.f))
  | 0, e, he, a, oc, od, kV, doc, pm, an, cdv, ct, osl, lk, cd => by
    have no : ∀ vs H Q E, ¬ spOf K ((tbl wf defs 0).f e.f) vs H Q E := fun vs H Q E h => by
      obtain ⟨R, args, Fs, k, x, ws, st, ev, _⟩ := h
      cases ev
    exact ⟨fun vs H Q E h => (no _ _ _ _ h).elim, fun A outer s H args us vs Q E _ _ _ _ h => (no _ _ _ _ h).elim⟩
  | n + 1, e, he, a, oc, od, kV, doc, pm, an, cdv, ct, osl, lk, cd => by
    have ih := all_ok hd stat at_ hnon hf hkf n
    have S := stat e he
    have eq : (tbl wf defs (n + 1)).f e.f = runDef (tbl wf defs n) e.p := by
      funext args
      show (match defs e.f with
        | some p => runDef (tbl wf defs n) p args
        | none => PL.R.no) = _
      rw [hd e he]
    rw [eq]
    refine fnOk_def lk cd S.scope S.np S.ns fun A hr => ?_
    refine chk_ok fuel (bodyS P w K mg base A e.N (L2.defScope e.st) (tbl wf defs n)) (C := ⟨e.N, fns, kfns, non⟩) ⟨rfl, S.scope.nd, ?_, fun x f h => ?_, fun x f m ks h => ?_, hnon⟩ (.Ss (L2.defBody e.st) e.p.body) S.chk
    · have := hr.un
      show A.units + 65 < cLine
      omega
    · obtain ⟨e', he', rfl, rfl⟩ := hf x f h
      obtain ⟨a', oc', od', kV', doc', pm', an', cdv', ct', osl', h1, h2, h3, h4⟩ := at_ e' he'
      exact ⟨a', _, e'.ps, n, h1, h2, .all ((stat e' he').bind kV' doc' pm' an' cdv' ct'), ih e' he' a' oc' od' kV' doc' pm' an' cdv' ct' osl' h3 h4, hr⟩
    · obtain ⟨e', he', rfl, rfl, hk⟩ := hkf x f m ks h
      obtain ⟨a', oc', od', kV', doc', pm', an', cdv', ct', osl', h1, h2, h3, h4⟩ := at_ e' he'
      refine ⟨a', _, e'.ps, n, h1, h2, fun s us ws l1 l2 => .of_eq ((stat e' he').kbind m ks hk kV' doc' pm' an' cdv' ct' us ws l1 l2), ?_, ih e' he' a' oc' od' kV' doc' pm' an' cdv' ct' osl' h3 h4, hr⟩
      rcases (stat e' he').ps with z | z
      · rw [z] at hk; cases hk
      · exact z
end
/-- the law's promise: what the interpreter tells of it -/
theorem law_sp {K : PySem.W.Frag} {g : List SV → R (SV × List SV)} {H : Hp} {a : Addr} {ns : List Int} (hO : L2.Only H) (hS : SqL K H a (ns.map V.int)) {ws : List SV} (ev : g [(.s, .list (ofInts ns))] = .ok ((.d, .bool true), ws)) :
    spOf K g [.ref a] H (fun v _ => v = .bl true) fun _ _ _ => False := by
  have sc : Scr K (GG (fun _ => False) ([[]] : List (List Addr)).flatten) H a (ns.map V.int) := by
    rcases hS with (h | ⟨o, h⟩) | h
    · rcases hO a with z | ⟨o, xs, z⟩ <;> rw [h] at z <;> cases z
    · exact .inl ⟨fun z => z.elim (fun z => z) fun z => by simp at z, o, h⟩
    · exact .inr (.inr h)
  refine ⟨fun _ => False, [(.s, .list (ofInts ns))], [[]], .d, .bool true, ws, ⟨.som (.s sc ofInts_vs) .nil, by simp, fun _ _ z => z, fun _ z => z.elim, fun b vs z => ?_⟩, ev, fun v H' Fs' Fr _ o _ _ _ => ?_⟩
  · rcases hO b with y | ⟨o, xs, y⟩ <;> rcases z with z | z <;> rw [y] at z <;> cases z
  · cases o with
    | d o => cases o; rfl
end PL
end

section
set_option linter.all false
set_option maxRecDepth 100000
set_option autoImplicit false
namespace PL
open PySem
namespace K02
def p1_is_within : PDef := ⟨2, 3, [.for_ (.var 2) (.e (.var 0)) [.ite (.op .notin [.var 2, .var 1]) [.ret (.bl false)] []], .ret (.bl true)]⟩
def p2_pleases : PDef := ⟨2, 2, [.ret (.op .isin [.var 1, .op .ix [.var 0, .int 1]])]⟩
def p46_lots_within : PDef := ⟨1, 4, [.asg (.var 1) (.lst [.tup []]), .for_ (.var 2) (.e (.var 0)) [.asg (.var 1) (.op .add [.var 1, .comp (.op .add [.var 3, .tup [.var 2]]) [3] (.var 3) (.e (.var 1)) (.bl true)])], .ret (.op .tuple [.slc [.op .sorted [.var 1]] true (.int 1) false (.non)])]⟩
def p47_greatest_other : PDef := ⟨2, 6, [.asg (.var 2) (.call 2 [.var 0, .var 1]), .asg (.var 3) (.comp (.var 4) [4] (.var 4) (.e (.call 46 [.var 1])) (.op .ne [.call 2 [.var 0, .var 4], .var 2])), .ret (.op .tuple [.comp (.var 4) [4] (.var 4) (.e (.var 3)) (.not (.op .any [.comp (.and (.op .ne [.var 4, .var 5]) (.call 1 [.var 4, .var 5])) [5] (.var 5) (.e (.var 3)) (.bl true)]))])]⟩
def p48_split_rows : PDef := ⟨1, 7, [.par [1, 2, 3, 4] [.lst [.op (.rangeL true 1) [.op .ix [.var 0, .int 0]]], .lst [.non], .lst [], .int 0], .while_ (.op .lt [.var 4, .op .len [.var 1]]) [.asg (.var 5) (.call 47 [.var 0, .op .ix [.var 1, .var 4]]), .app 3 (.op (.rangeL true 2) [.op .len [.var 1], .op .add [.op .len [.var 1], .op .len [.var 5]]]), .ext 1 (.op .list [.var 5]), .ext 2 (.comp (.var 4) [6] (.var 6) (.e (.var 5)) (.bl true)), .aug 4 .add (.int 1)], .ret (.op .tuple [.op .listZip3 [.var 1, .var 2, .var 3]])]⟩
def p6_is_wanted : PDef := ⟨3, 3, [.ret (.op .eq [.call 2 [.var 0, .var 2], .op .eq [.var 1, .int 0]])]⟩
def p7_is_flat : PDef := ⟨2, 2, [.ret (.op .eq [.op .len [.op .ix [.op .ix [.var 0, .var 1], .int 2]], .int 0])]⟩
def p8_dice_of_children : PDef := ⟨4, 6, [.ite (.not (.var 3)) [.ret (.op .maxL [.comp (.op .ix [.var 1, .var 4]) [4] (.var 4) (.e (.var 2)) (.bl true)])] [], .asg (.var 5) (.comp (.var 4) [4] (.var 4) (.e (.var 2)) (.not (.call 7 [.var 0, .var 4]))), .ret (.op .add [.op .sum [.comp (.op .ix [.var 1, .var 4]) [4] (.var 4) (.e (.var 5)) (.bl true)], .ifx (.op .lt [.op .len [.var 5], .op .len [.var 2]]) (.int 1) (.int 0)])]⟩
def p49_dice_rows : PDef := ⟨2, 9, [.asg (.var 2) (.call 48 [.var 0]), .asg (.var 3) (.comp (.int 1) [4] (.var 4) (.e (.var 2)) (.bl true)), .for_ (.var 5) (.range3 (.op .sub [.op .len [.var 2], .int 1]) (.op .neg [.int 1]) (.op .neg [.int 1])) [.asg (.tup [.var 6, .var 7, .var 8]) (.op .ix [.var 2, .var 5]), .ite (.op .gt [.op .len [.var 8], .int 0]) [.put 3 (.var 5) (.call 8 [.var 2, .var 3, .var 8, .call 6 [.var 0, .var 1, .var 6]])] []], .ret (.op .tuple [.var 3])]⟩
def p50_dice_minds : PDef := ⟨2, 2, [.ret (.op .ix [.call 49 [.var 0, .var 1], .int 0])]⟩
def p11_law_box : PDef := ⟨2, 4, [.asg (.var 2) (.op .add [.op .mul [.int 7919, .var 1], .int 3607]), .ite (.op .lt [.var 1, .op .len [.var 0]]) [.asg (.var 2) (.op .abs [.op .int [.op .ix [.var 0, .var 1]]])] [.ite (.op .gt [.op .len [.var 0], .int 0]) [.asg (.var 2) (.op .add [.var 2, .op .mul [.op .mod [.op .int [.op .abs [.op .int [.op .ix [.var 0, .op .mod [.op .int [.var 1], .op .len [.var 0]]]]]], .int 2147483563], .int 48271]])] []], .asg (.var 3) (.ifx (.op .ge [.var 2, .op .pow [.int 10, .int 18]]) (.var 2) (.int 0)), .ret (.lst [.var 3, .op .add [.op .mod [.op .int [.op .add [.op .mul [.op .mod [.op .int [.var 2], .int 2147483563], .int 40014], .op .mul [.int 3607, .var 1]]], .int 2147483563], .int 1]])]⟩
def p12_law_take : PDef := ⟨2, 4, [.ite (.op .gt [.op .ix [.var 0, .int 0], .int 0]) [.asg (.var 2) (.op .mod [.op .int [.op .ix [.var 0, .int 0]], .var 1]), .put 0 (.int 0) (.op .fdiv [.op .ix [.var 0, .int 0], .var 1]), .retMv 2] [], .asg (.var 3) (.op .mod [.op .int [.op .add [.op .mul [.op .ix [.var 0, .int 1], .int 39373], .int 631]], .int 2147483647]), .put 0 (.int 1) (.op .add [.op .mod [.op .int [.op .add [.op .mul [.var 3, .int 40692], .int 113]], .int 2147483399], .int 1]), .ret (.op .mod [.op .int [.op .fdiv [.op .add [.op .mul [.var 3, .int 2147483629], .op .ix [.var 0, .int 1]], .int 8231]], .var 1])]⟩
def p13_law_pick : PDef := ⟨2, 2, [.ret (.op .ix [.var 1, .call 12 [.var 0, .op .len [.var 1]]])]⟩
def p14_law_same : PDef := ⟨2, 4, [.ite (.op .isTuple [.var 1]) [.ite (.or (.not (.op .isTuple [.var 0])) (.op .ne [.op .len [.var 0], .op .len [.var 1]])) [.ret (.bl false)] [], .for_ (.tup [.var 2, .var 3]) (.zip2 (.var 0) (.var 1)) [.ite (.not (.call 14 [.var 2, .var 3])) [.ret (.bl false)] []], .ret (.bl true)] [], .ite (.op .isNone [.var 1]) [.ret (.op .isNone [.var 0])] [], .ite (.or (.op (.isBool true) [.var 1]) (.op (.isBool false) [.var 1])) [.ret (.and (.op .isBoolT [.var 0]) (.op .eq [.var 0, .var 1]))] [], .ite (.op .isInt [.var 1]) [.ret (.and (.op .isInt [.var 0]) (.and (.not (.op .isBoolT [.var 0])) (.op .eq [.var 0, .var 1])))] [], .ret (.and (.op .isStr [.var 0]) (.and (.op .isStr [.var 1]) (.op .eq [.var 0, .var 1])))]⟩
def p51_law_lots : PDef := ⟨1, 4, [.asg (.var 1) (.lst [.tup []]), .for_ (.var 2) (.range1 (.var 0)) [.asg (.var 1) (.op .add [.var 1, .comp (.op .add [.var 3, .tup [.var 2]]) [3] (.var 3) (.e (.var 1)) (.bl true)])], .ret (.slc [.op .sorted [.var 1]] true (.int 1) false (.non))]⟩
def p16_law_inside : PDef := ⟨2, 3, [.for_ (.var 2) (.e (.var 0)) [.ite (.op .notin [.var 2, .var 1]) [.ret (.bl false)] []], .ret (.bl true)]⟩
def p17_law_given : PDef := ⟨2, 3, [.ret (.op .eq [.comp (.int 1) [2] (.var 2) (.range1 (.var 1)) (.and (.op .isin [.op .mul [.int 2, .var 2], .var 0]) (.op .notin [.op .add [.op .mul [.int 2, .var 2], .int 1], .var 0])), .lst []])]⟩
def p52_law_by : PDef := ⟨3, 6, [.asg (.var 3) (.call 51 [.var 0]), .ite (.op .eq [.var 1, .str "all"]) [.ret (.tup [.var 0, .op .tuple [.comp (.var 4) [4] (.var 4) (.e (.var 3)) (.op .eq [.op .len [.var 4], .var 0])]])] [], .ite (.op .eq [.var 1, .str "some"]) [.ret (.tup [.var 0, .op .tuple [.comp (.var 4) [4] (.var 4) (.e (.var 3)) (.op .ne [.comp (.int 1) [5] (.var 5) (.e (.var 4)) (.op .isin [.var 5, .var 2]), .lst []])]])] [], .ite (.op .eq [.var 1, .str "ranks"]) [.ret (.tup [.var 0, .op .tuple [.comp (.var 4) [4] (.var 4) (.e (.var 3)) (.op .eq [.op .mod [.op .int [.op .minL [.comp (.op .ix [.var 2, .var 5]) [5] (.var 5) (.e (.var 4)) (.bl true)]], .int 2], .int 0])]])] [], .ite (.op .eq [.var 1, .str "pairs"]) [.ret (.tup [.var 0, .op .tuple [.comp (.var 4) [4] (.var 4) (.e (.var 3)) (.call 17 [.var 4, .var 2])]])] [], .ite (.op .eq [.var 1, .str "many"]) [.ret (.tup [.var 0, .op .tuple [.comp (.var 4) [4] (.var 4) (.e (.var 3)) (.op .ge [.op .len [.var 4], .var 2])]])] [], .ite (.op .eq [.var 1, .str "even"]) [.ret (.tup [.var 0, .op .tuple [.comp (.var 4) [4] (.var 4) (.e (.var 3)) (.op .eq [.op .mod [.op .int [.op .len [.var 4]], .int 2], .var 2])]])] [], .ret (.tup [.var 0, .op .tuple [.comp (.var 4) [4] (.var 4) (.e (.var 3)) (.op .eq [.op .len [.var 4], .var 2])]])]⟩
def p53_law_form : PDef := ⟨2, 6, [.par [2, 3] [.op .add [.int 2, .call 12 [.var 0, .op .sub [.var 1, .int 1]]], .call 13 [.var 0, .lst [.str "all", .str "some", .str "ranks", .str "pairs", .str "just", .str "many", .str "even"]]], .asg (.var 4) (.op .add [.int 1, .call 12 [.var 0, .var 2]]), .ite (.op .eq [.var 3, .str "some"]) [.asg (.var 4) (.call 13 [.var 0, .call 51 [.var 2]])] [], .ite (.op .eq [.var 3, .str "ranks"]) [.asg (.var 4) (.op .tuple [.comp (.call 12 [.var 0, .int 6]) [5] (.var 5) (.range1 (.var 2)) (.bl true)])] [], .ite (.op .eq [.var 3, .str "pairs"]) [.asg (.var 2) (.op .mul [.int 2, .op .fdiv [.var 2, .int 2]]), .asg (.var 4) (.op .fdiv [.var 2, .int 2])] [], .ite (.op .eq [.var 3, .str "even"]) [.par [2, 4] [.op .min2 [.var 2, .int 4], .call 12 [.var 0, .int 2]]] [], .ret (.call 52 [.var 2, .var 3, .var 4])]⟩
def p54_law_other : PDef := ⟨1, 2, [.ret (.tup [.op .ix [.var 0, .int 0], .op .tuple [.comp (.var 1) [1] (.var 1) (.e (.call 51 [.op .ix [.var 0, .int 0]])) (.op .notin [.var 1, .op .ix [.var 0, .int 1]])]])]⟩
def p55_law_condition : PDef := ⟨2, 9, [.asg (.var 2) (.call 12 [.var 0, .int 4]), .ite (.op .eq [.var 2, .int 0]) [.asg (.var 3) (.call 53 [.var 0, .var 1]), .ret (.ifx (.op .eq [.call 12 [.var 0, .int 2], .int 0]) (.call 54 [.var 3]) (.var 3))] [], .ite (.op .eq [.var 2, .int 1]) [.asg (.tup [.var 4, .var 5]) (.call 53 [.var 0, .var 1]), .asg (.var 6) (.comp (.var 7) [7] (.var 7) (.e (.call 51 [.var 4])) (.op .ne [.op .isin [.var 7, .var 5], .op .eq [.call 12 [.var 0, .int 6], .int 0]])), .ret (.tup [.var 4, .op .tuple [.var 6]])] [], .par [4, 8] [.op .add [.int 1, .call 12 [.var 0, .var 1]], .call 13 [.var 0, .lst [.int 2, .int 2, .int 3, .int 5]]], .ret (.tup [.var 4, .op .tuple [.comp (.var 7) [7] (.var 7) (.e (.call 51 [.var 4])) (.op .eq [.op .eq [.call 12 [.var 0, .var 8], .int 0], .op .eq [.var 2, .int 2]])]])]⟩
def p56_law_children : PDef := ⟨2, 7, [.asg (.var 2) (.op .isin [.var 1, .op .ix [.var 0, .int 1]]), .asg (.var 3) (.comp (.var 4) [4] (.var 4) (.e (.call 51 [.op .ix [.var 0, .int 0]])) (.and (.op .ne [.op .isin [.var 4, .op .ix [.var 0, .int 1]], .var 2]) (.call 16 [.var 4, .var 1]))), .asg (.var 5) (.lst []), .for_ (.var 4) (.e (.var 3)) [.ite (.op .eq [.comp (.int 1) [6] (.var 6) (.e (.var 3)) (.and (.op .gt [.op .len [.var 6], .op .len [.var 4]]) (.call 16 [.var 4, .var 6])), .lst []]) [.app 5 (.var 4)] []], .retMv 5]⟩
def p57_law_tree : PDef := ⟨1, 8, [.par [1, 2, 3] [.lst [.tup [.op (.rangeL true 1) [.op .ix [.var 0, .int 0]], .non]], .lst [], .dct], .for_ (.var 4) (.range1 (.int 2000)) [.ite (.op .eq [.var 4, .op .len [.var 1]]) [.brk] [], .asg (.tup [.var 5, .var 6]) (.op .ix [.var 1, .var 4]), .ite (.op .notin [.var 5, .var 3]) [.put 3 (.var 5) (.call 56 [.var 0, .var 5])] [], .app 2 (.tup [.var 5, .var 6, .op (.rangeL true 2) [.op .len [.var 1], .op .add [.op .len [.var 1], .op .len [.op .ix [.var 3, .var 5]]]]]), .asg (.var 1) (.op .add [.var 1, .comp (.tup [.var 7, .op .int [.var 4]]) [7] (.var 7) (.e (.op .ix [.var 3, .var 5])) (.bl true)])], .retMv 2]⟩
def p24_law_dice : PDef := ⟨3, 11, [.asg (.var 3) (.op .mul [.lst [.int 1], .op .len [.var 1]]), .for_ (.var 4) (.range3 (.op .sub [.op .len [.var 1], .int 1]) (.op .neg [.int 1]) (.op .neg [.int 1])) [.asg (.tup [.var 5, .var 6, .var 7]) (.op .ix [.var 1, .var 4]), .ite (.op .ne [.var 7, .tup []]) [.asg (.var 8) (.comp (.op .ix [.var 3, .var 9]) [9] (.var 9) (.e (.var 7)) (.op .ne [.op .ix [.op .ix [.var 1, .var 9], .int 2], .tup []])), .asg (.var 10) (.op .eq [.op .isin [.var 5, .op .ix [.var 0, .int 1]], .op .eq [.var 2, .int 0]]), .put 3 (.var 4) (.ifx (.var 10) (.op .add [.op .sum [.var 8], .ifx (.op .lt [.op .len [.var 8], .op .len [.var 7]]) (.int 1) (.int 0)]) (.op .maxL [.comp (.op .ix [.var 3, .var 9]) [9] (.var 9) (.e (.var 7)) (.bl true)]))] []], .retMv 3]⟩
def p58_law : PDef := ⟨1, 7, [.for_ (.var 1) (.range1 (.op .max2 [.int 4, .op .min2 [.op .len [.var 0], .int 8]])) [.asg (.var 2) (.call 11 [.var 0, .var 1]), .for_ (.var 3) (.e (.lst [.call 55 [.var 2, .ifx (.op .eq [.var 1, .int 0]) (.int 5) (.int 4)], .call 55 [.var 2, .int 3]])) [.asg (.var 4) (.call 57 [.var 3]), .ite (.op .gt [.op .len [.var 4], .int 200]) [.cont] [], .for_ (.var 5) (.e (.tup [.int 0, .int 1])) [.asg (.var 6) (.call 24 [.var 3, .var 4, .var 5]), .ite (.or (.not (.call 14 [.call 49 [.var 3, .var 5], .op .tuple [.var 6]])) (.not (.call 14 [.call 50 [.var 3, .var 5], .op .ix [.var 6, .int 0]]))) [.ret (.bl false)] []]]], .ret (.bl true)]⟩
def dfs : Nat → Option PDef := fun i => match i with
  | 1 => some p1_is_within
  | 2 => some p2_pleases
  | 6 => some p6_is_wanted
  | 7 => some p7_is_flat
  | 8 => some p8_dice_of_children
  | 11 => some p11_law_box
  | 12 => some p12_law_take
  | 13 => some p13_law_pick
  | 14 => some p14_law_same
  | 16 => some p16_law_inside
  | 17 => some p17_law_given
  | 24 => some p24_law_dice
  | 46 => some p46_lots_within
  | 47 => some p47_greatest_other
  | 48 => some p48_split_rows
  | 49 => some p49_dice_rows
  | 50 => some p50_dice_minds
  | 51 => some p51_law_lots
  | 52 => some p52_law_by
  | 53 => some p53_law_form
  | 54 => some p54_law_other
  | 55 => some p55_law_condition
  | 56 => some p56_law_children
  | 57 => some p57_law_tree
  | 58 => some p58_law
  | _ => none
end K02
end PL
end

section
set_option Elab.async false
set_option linter.all false
set_option maxRecDepth 100000
set_option autoImplicit false
/-! PW: what the interpreter tells, by equations. -/
namespace PL
open PySem

section
variable {α β : Type}
/-- what keeps a part from being looked into ahead of its time -/
inductive Tag {γ : Type} (a : γ) : Type
  | mk : Tag a
/-- one thing, then another that waits -/
def R.bL {α β : Type} (x : R α) (f : α → R β) (t : Tag f := Tag.mk) : R β := R.bnd x f
theorem bnd_ok (a : α) (f : α → R β) : R.bL (.ok a) f = f a := (rfl)
theorem bnd_no (f : α → R β) : R.bL .no f = .no := (rfl)
/-- a test, its sides left alone -/
def iff_ (b : Bool) (x y : R α) (t : Tag (x, y) := Tag.mk) : R α := if b then x else y
theorem iff_t (x y : R α) : iff_ true x y = x := (rfl)
theorem iff_f (x y : R α) : iff_ false x y = y := (rfl)
end
variable {T : Tbl} {ρ : Env}
/-! ### expressions -/
theorem ev_var {i : Nat} : evalE T (.var i) ρ = readV ρ i := (rfl)
theorem ev_int {n : Int} : evalE T (.int n) ρ = .ok ((.d, .int n), ρ) := (rfl)
theorem ev_bl {b : Bool} : evalE T (.bl b) ρ = .ok ((.d, .bool b), ρ) := (rfl)
theorem ev_non : evalE T .non ρ = .ok ((.d, .none), ρ) := (rfl)
theorem ev_str {s : Str} : evalE T (.str s) ρ = .ok ((.d, .str s), ρ) := (rfl)
theorem ev_dct : evalE T .dct ρ = .ok ((.m .d, .dict []), ρ) := (rfl)
theorem ev_tup {es : List PE} : evalE T (.tup es) ρ = (evalVs T es ρ).bL fun p => .ok ((.d, .tuple p.1), p.2) := (rfl)
theorem ev_lst {es : List PE} : evalE T (.lst es) ρ = (evalVs T es ρ).bL fun p => .ok ((.l .d, .list p.1), p.2) := (rfl)
theorem ev_op {o : Op} {as : List PE} : evalE T (.op o as) ρ = (evalAs T as ρ).bL fun p => (fill p.2 p.1).bL fun vs => (opV o vs).bL fun r => .ok (r, p.2) := (rfl)
theorem ev_call {f : Nat} {as : List PE} : evalE T (.call f as) ρ = (evalAs T as ρ).bL fun p => (fill p.2 p.1).bL fun vs => iff_ (nodupN (ownRefs p.1 vs)) ((T.f f vs).bL fun q => iff_ (noS q.1.1) (.ok (q.1, putBack p.2 p.1 vs q.2)) .no) .no := (rfl)
theorem ev_and {a b : PE} : evalE T (.and a b) ρ = (evalE T a ρ).bL fun p => (asBool p.1).bL fun c => iff_ c (evalE T b p.2) (.ok ((.d, .bool false), p.2)) := (rfl)
theorem ev_or {a b : PE} : evalE T (.or a b) ρ = (evalE T a ρ).bL fun p => (asBool p.1).bL fun c => iff_ c (.ok ((.d, .bool true), p.2)) (evalE T b p.2) := (rfl)
theorem ev_not {a : PE} : evalE T (.not a) ρ = (evalE T a ρ).bL fun p => (asBool p.1).bL fun c => .ok ((.d, .bool (!c)), p.2) := (rfl)
theorem ev_ifx {c a b : PE} : evalE T (.ifx c a b) ρ = (evalE T c ρ).bL fun p => (asBool p.1).bL fun t => iff_ t (evalE T a p.2) (evalE T b p.2) := (rfl)
theorem evs_nil : evalVs T [] ρ = .ok ([], ρ) := (rfl)
theorem evs_cons {e : PE} {es : List PE} : evalVs T (e :: es) ρ = (evalE T e ρ).bL fun p => (evalVs T es p.2).bL fun q => .ok (p.1.2 :: q.1, q.2) := (rfl)
theorem esv_nil : evalSVs T [] ρ = .ok ([], ρ) := (rfl)
theorem esv_cons {e : PE} {es : List PE} : evalSVs T (e :: es) ρ = (evalE T e ρ).bL fun p => (evalSVs T es p.2).bL fun q => .ok (p.1 :: q.1, q.2) := (rfl)
theorem eas_nil : evalAs T [] ρ = .ok ([], ρ) := (rfl)
theorem eas_var {j : Nat} {es : List PE} : evalAs T (.var j :: es) ρ = (get ρ j).bL fun _ => (evalAs T es ρ).bL fun q => .ok (.inl j :: q.1, q.2) := (rfl)
theorem eas_op {o : Op} {as : List PE} {es : List PE} : evalAs T ((.op o as) :: es) ρ = (evalE T (.op o as) ρ).bL fun p => (evalAs T es p.2).bL fun q => .ok (.inr p.1.2 :: q.1, q.2) := (rfl)
theorem eas_int {n : Int} {es : List PE} : evalAs T ((.int n) :: es) ρ = (evalE T (.int n) ρ).bL fun p => (evalAs T es p.2).bL fun q => .ok (.inr p.1.2 :: q.1, q.2) := (rfl)
theorem eas_bl {b : Bool} {es : List PE} : evalAs T ((.bl b) :: es) ρ = (evalE T (.bl b) ρ).bL fun p => (evalAs T es p.2).bL fun q => .ok (.inr p.1.2 :: q.1, q.2) := (rfl)
theorem eas_non  {es : List PE} : evalAs T (.non :: es) ρ = (evalE T .non ρ).bL fun p => (evalAs T es p.2).bL fun q => .ok (.inr p.1.2 :: q.1, q.2) := (rfl)
theorem eas_str {s : Str} {es : List PE} : evalAs T ((.str s) :: es) ρ = (evalE T (.str s) ρ).bL fun p => (evalAs T es p.2).bL fun q => .ok (.inr p.1.2 :: q.1, q.2) := (rfl)
theorem eas_tup {as : List PE} {es : List PE} : evalAs T ((.tup as) :: es) ρ = (evalE T (.tup as) ρ).bL fun p => (evalAs T es p.2).bL fun q => .ok (.inr p.1.2 :: q.1, q.2) := (rfl)
theorem eas_lst {as : List PE} {es : List PE} : evalAs T ((.lst as) :: es) ρ = (evalE T (.lst as) ρ).bL fun p => (evalAs T es p.2).bL fun q => .ok (.inr p.1.2 :: q.1, q.2) := (rfl)
theorem eas_dct  {es : List PE} : evalAs T (.dct :: es) ρ = (evalE T .dct ρ).bL fun p => (evalAs T es p.2).bL fun q => .ok (.inr p.1.2 :: q.1, q.2) := (rfl)
theorem eas_call {f : Nat} {as : List PE} {es : List PE} : evalAs T ((.call f as) :: es) ρ = (evalE T (.call f as) ρ).bL fun p => (evalAs T es p.2).bL fun q => .ok (.inr p.1.2 :: q.1, q.2) := (rfl)
theorem eas_and {a b : PE} {es : List PE} : evalAs T ((.and a b) :: es) ρ = (evalE T (.and a b) ρ).bL fun p => (evalAs T es p.2).bL fun q => .ok (.inr p.1.2 :: q.1, q.2) := (rfl)
theorem eas_or {a b : PE} {es : List PE} : evalAs T ((.or a b) :: es) ρ = (evalE T (.or a b) ρ).bL fun p => (evalAs T es p.2).bL fun q => .ok (.inr p.1.2 :: q.1, q.2) := (rfl)
theorem eas_not {a : PE} {es : List PE} : evalAs T ((.not a) :: es) ρ = (evalE T (.not a) ρ).bL fun p => (evalAs T es p.2).bL fun q => .ok (.inr p.1.2 :: q.1, q.2) := (rfl)
theorem eas_ifx {c a b : PE} {es : List PE} : evalAs T ((.ifx c a b) :: es) ρ = (evalE T (.ifx c a b) ρ).bL fun p => (evalAs T es p.2).bL fun q => .ok (.inr p.1.2 :: q.1, q.2) := (rfl)
theorem eas_comp {a c : PE} {v : List Nat} {tg : PTg} {it : PIt} {es : List PE} : evalAs T ((.comp a v tg it c) :: es) ρ = (evalE T (.comp a v tg it c) ρ).bL fun p => (evalAs T es p.2).bL fun q => .ok (.inr p.1.2 :: q.1, q.2) := (rfl)
theorem eas_slc {as : List PE} {b1 b2 : Bool} {l h : PE} {es : List PE} : evalAs T ((.slc as b1 l b2 h) :: es) ρ = (evalE T (.slc as b1 l b2 h) ρ).bL fun p => (evalAs T es p.2).bL fun q => .ok (.inr p.1.2 :: q.1, q.2) := (rfl)
theorem fill_nil : fill ρ [] = .ok [] := (rfl)
theorem fill_inl {j : Nat} {r : List (Sum Nat D)} : fill ρ (.inl j :: r) = (get ρ j).bL fun v => (fill ρ r).bL fun vs => .ok (v :: vs) := (rfl)
theorem fill_inr {x : D} {r : List (Sum Nat D)} : fill ρ (.inr x :: r) = (fill ρ r).bL fun vs => .ok ((.d, x) :: vs) := (rfl)
theorem asB_ok {b : Bool} : asBool (.d, .bool b) = .ok b := (rfl)
/-! ### statements -/
theorem ex_nil : execSs T [] ρ = .ok (.nx ρ) := (rfl)
def thenS (T : Tbl) (ss : List PS) : Out → R Out
  | .nx r => execSs T ss r
  | o => .ok o
theorem ex_cons {s : PS} {ss : List PS} : execSs T (s :: ss) ρ = (execS T s ρ).bL (thenS T ss) := by
  show R.bnd (execS T s ρ) _ = R.bnd (execS T s ρ) _
  cases execS T s ρ with
  | ok o => cases o <;> rfl
  | ex e => rfl
  | no => rfl
theorem then_nx {ss : List PS} : thenS T ss (.nx ρ) = execSs T ss ρ := (rfl)
theorem then_rt {ss : List PS} {v : SV} : thenS T ss (.rt v ρ) = .ok (.rt v ρ) := (rfl)
theorem then_ct {ss : List PS} : thenS T ss (.ct ρ) = .ok (.ct ρ) := (rfl)
theorem then_bk {ss : List PS} : thenS T ss (.bk ρ) = .ok (.bk ρ) := (rfl)
theorem ex_asg {i : Nat} {e : PE} : execS T (.asg (.var i) e) ρ = (evalE T e ρ).bL fun p => (setS p.2 i p.1).bL fun r => .ok (.nx r) := (rfl)
theorem ex_asgT {ts : List PTg} {e : PE} : execS T (.asg (.tup ts) e) ρ = (evalE T e ρ).bL fun p => (bindT (.tup ts) p.1.2 p.2).bL fun r => .ok (.nx r) := (rfl)
theorem ex_par {is : List Nat} {es : List PE} : execS T (.par is es) ρ = (evalSVs T es ρ).bL fun p => (setAll p.2 is p.1).bL fun r => .ok (.nx r) := (rfl)
theorem ex_ret {e : PE} : execS T (.ret e) ρ = (evalE T e ρ).bL fun p => .ok (.rt p.1 p.2) := (rfl)
theorem ex_retMv {j : Nat} : execS T (.retMv j) ρ = (get ρ j).bL fun v => .ok (.rt v (ρ.set j none)) := (rfl)
theorem ex_ite {c : PE} {a b : List PS} : execS T (.ite c a b) ρ = (evalE T c ρ).bL fun p => (asBool p.1).bL fun t => iff_ t (execSs T a p.2) (execSs T b p.2) := (rfl)
theorem ex_for {tg : PTg} {it : PIt} {body : List PS} : execS T (.for_ tg it body) ρ = (evalI T it ρ).bL fun p => forLoop (fun x r => (bindT tg x r).bL fun r1 => execSs T body r1) p.1 p.2 := (rfl)
theorem ex_brk : execS T .brk ρ = .ok (.bk ρ) := (rfl)
theorem ex_cont : execS T .cont ρ = .ok (.ct ρ) := (rfl)
theorem ei_e {x : PE} : evalI T (.e x) ρ = (evalE T x ρ).bL fun p => (asList p.1.2).bL fun xs => .ok (xs, p.2) := (rfl)
theorem ei_range1 {a : PE} : evalI T (.range1 a) ρ = (evalE T a ρ).bL fun p => (asInt p.1.2).bL fun n => iff_ (small n) (.ok (rangeUp 0 n, p.2)) .no := (rfl)
theorem ei_range2 {a b : PE} : evalI T (.range2 a b) ρ = (evalE T a ρ).bL fun p => (evalE T b p.2).bL fun q => (asInt p.1.2).bL fun m => (asInt q.1.2).bL fun n => iff_ (small m && small n) (.ok (rangeUp m n, q.2)) .no := (rfl)
/-- a store, its parts at hand -/
def putIn (ρ : Env) (j : Nat) (v w : SV) : SV → R Out
  | (k, x) => match k, x with
    | .l .d, .list xs => do
      let a ← asInt w.2
      match ixN xs.length a with
      | some n => .ok (.nx (ρ.set j (some (.l .d, .list (xs.set n v.2)))))
      | none => .no
    | .m .d, .dict kvs => match dkey w.2 with
      | some q => if sortOk kvs q && decide (kvs.length < sizeCap) then .ok (.nx (ρ.set j (some (.m .d, .dict (putK kvs w.2 q v.2))))) else .no
      | none => .no
    | _, _ => .no
theorem ex_put {j : Nat} {i e : PE} : execS T (.put j i e) ρ = (evalE T e ρ).bL fun p => (get p.2 j).bL fun _ => (evalE T i p.2).bL fun q => (get q.2 j).bL fun s => putIn q.2 j p.1 q.1 s := (rfl)
def putO (ρ : Env) (j : Nat) (x : D) (xs : List D) : Option Nat → R Out
  | some n => .ok (.nx (ρ.set j (some (.l .d, .list (xs.set n x)))))
  | none => .no
theorem putO_some {j n : Nat} {x : D} {xs : List D} : putO ρ j x xs (some n) = .ok (.nx (ρ.set j (some (.l .d, .list (xs.set n x))))) := (rfl)
theorem putIn_l {j : Nat} {v : SV} {k : Kd} {i : Int} {xs : List D} : putIn ρ j v (k, .int i) (.l .d, .list xs) = putO ρ j v.2 xs (ixN xs.length i) := (rfl)
theorem putIn_m {j : Nat} {v w : SV} {kvs : List (D × D)} {q : DKey} (h : dkey w.2 = some q) (h2 : (sortOk kvs q && decide (kvs.length < sizeCap)) = true) : putIn ρ j v w (.m .d, .dict kvs) = .ok (.nx (ρ.set j (some (.m .d, .dict (putK kvs w.2 q v.2))))) := by
  show (match dkey w.2 with
      | some q => if (sortOk kvs q && decide (kvs.length < sizeCap)) = true then PL.R.ok (Out.nx (ρ.set j (some (.m .d, .dict (putK kvs w.2 q v.2))))) else .no
      | none => .no) = _
  rw [h]
  exact if_pos h2
theorem ixN0 {n : Nat} : ixN (n + 1) 0 = some 0 := by
  unfold ixN
  rw [if_pos (Int.le_refl 0), if_pos (by omega)]
  rfl
theorem ixN1 {n : Nat} : ixN (n + 1 + 1) 1 = some 1 := by
  unfold ixN
  rw [if_pos (by decide), if_pos (by omega)]
  rfl
/-! ### operations -/
theorem op_add {a b : Int} : opV .add [(.d, .int a), (.d, .int b)] = .ok (.d, .int (a + b)) := (rfl)
theorem op_sub {a b : Int} : opV .sub [(.d, .int a), (.d, .int b)] = .ok (.d, .int (a - b)) := (rfl)
theorem op_neg {a : Int} : opV .neg [(.d, .int a)] = .ok (.d, .int (-a)) := (rfl)
theorem op_mul {a b : Int} (h : (lim a || lim b) = true) : opV .mul [(.d, .int a), (.d, .int b)] = .ok (.d, .int (a * b)) := by
  show (if (lim a || lim b) = true then dat (.int (a * b)) else .no) = _
  rw [if_pos h]
  rfl
theorem op_fdiv {a b : Int} (h : b ≠ 0 ∧ b.natAbs < 1073741824) : opV .fdiv [(.d, .int a), (.d, .int b)] = .ok (.d, .int (a.fdiv b)) := by
  show (if b ≠ 0 ∧ b.natAbs < 1073741824 then dat (.int (a.fdiv b)) else .no) = _
  rw [if_pos h]
  rfl
theorem op_mod {a b : Int} (h : b ≠ 0) : opV .mod [(.d, .int a), (.d, .int b)] = .ok (.d, .int (a.fmod b)) := by
  show (if b ≠ 0 then dat (.int (a.fmod b)) else .no) = _
  rw [if_pos h]
  rfl
theorem op_gt {a b : Int} : opV .gt [(.d, .int a), (.d, .int b)] = .ok (.d, .bool (decide (b < a))) := (rfl)
theorem op_ge {a b : Int} : opV .ge [(.d, .int a), (.d, .int b)] = .ok (.d, .bool (decide (b ≤ a))) := (rfl)
theorem op_lt {a b : Int} : opV .lt [(.d, .int a), (.d, .int b)] = .ok (.d, .bool (decide (a < b))) := (rfl)
theorem op_le {a b : Int} : opV .le [(.d, .int a), (.d, .int b)] = .ok (.d, .bool (decide (a ≤ b))) := (rfl)
theorem op_int {a : Int} : opV .int [(.d, .int a)] = .ok (.d, .int a) := (rfl)
theorem op_abs {a : Int} : opV .abs [(.d, .int a)] = .ok (.d, .int (if a < 0 then -a else a)) := (rfl)
theorem op_min2 {a b : Int} : opV .min2 [(.d, .int a), (.d, .int b)] = .ok (.d, .int (if b < a then b else a)) := (rfl)
theorem op_max2 {a b : Int} : opV .max2 [(.d, .int a), (.d, .int b)] = .ok (.d, .int (if b > a then b else a)) := (rfl)
theorem op_lenL {a : List D} : opV .len [(.l .d, .list a)] = .ok (.d, .int a.length) := (rfl)
theorem op_lenS {a : List D} : opV .len [(.s, .list a)] = .ok (.d, .int a.length) := (rfl)
theorem op_lenD {a : List D} : opV .len [(.d, .list a)] = .ok (.d, .int a.length) := (rfl)
theorem op_lenT {a : List D} : opV .len [(.d, .tuple a)] = .ok (.d, .int a.length) := (rfl)
theorem op_tupL {a : List D} : opV .tuple [(.l .d, .list a)] = .ok (.d, .tuple a) := (rfl)
theorem op_tupD {a : List D} : opV .tuple [(.d, .list a)] = .ok (.d, .tuple a) := (rfl)
def ixO : Option D → R SV
  | some x => .ok (.d, x)
  | none => .no
theorem ixO_some {x : D} : ixO (some x) = .ok (.d, x) := (rfl)
theorem op_ixL {a : List D} {i : Int} : opV .ix [(.l .d, .list a), (.d, .int i)] = ixO (atI a i) := (rfl)
theorem op_ixD {a : List D} {i : Int} : opV .ix [(.d, .list a), (.d, .int i)] = ixO (atI a i) := (rfl)
theorem op_ixS {a : List D} {i : Int} : opV .ix [(.s, .list a), (.d, .int i)] = ixO (atI a i) := (rfl)
theorem op_ixT {a : List D} {i : Int} : opV .ix [(.d, .tuple a), (.d, .int i)] = ixO (atI a i) := (rfl)
theorem atI0 {x : D} {r : List D} : atI (x :: r) 0 = some x := by
  unfold atI ixN
  rw [if_pos (Int.le_refl 0), if_pos (by rw [List.length_cons]; omega)]
  rfl
theorem atI1 {x y : D} {r : List D} : atI (x :: y :: r) 1 = some y := by
  unfold atI ixN
  rw [if_pos (by decide), if_pos (by simp only [List.length_cons]; omega)]
  rfl
theorem setS_in {i : Nat} {v : SV} (h : i < ρ.length) : setS ρ i v = .ok (ρ.set i (some v)) := if_pos h
def getO : Option (Option SV) → R SV
  | some (some v) => .ok v
  | _ => .no
theorem get_eq {i : Nat} : get ρ i = getO ρ[i]? := (rfl)
theorem getO_some {v : SV} : getO (some (some v)) = .ok v := (rfl)
def readO (ρ : Env) (i : Nat) : Option (Option SV) → R (SV × Env)
  | some (some (.d, x)) => .ok ((.d, x), ρ)
  | some (some (k, x)) => if noS k then .ok ((.d, x), ρ.set i (some (.d, x))) else .no
  | _ => .no
theorem readV_eq {i : Nat} : readV ρ i = readO ρ i ρ[i]? := (rfl)
theorem readO_d {i : Nat} {x : D} : readO ρ i (some (some (.d, x))) = .ok ((.d, x), ρ) := (rfl)
theorem readO_l {i : Nat} {x : D} : readO ρ i (some (some (.l .d, x))) = .ok ((.d, x), ρ.set i (some (.d, x))) := (rfl)

/-! ### comprehensions -/
theorem wipe1 {r : Env} {v : Nat} : wipe r [v] = r.set v none := (rfl)
theorem back1 {r0 r1 : Env} {v : Nat} (h : r1.set v none = r0.set v none) : back r0 r1 [v] = r0 := by
  show r1.set v (r0[v]?.getD none) = r0
  have e : r1.set v (r0[v]?.getD none) = (r1.set v none).set v (r0[v]?.getD none) := by rw [List.set_set]
  rw [e, h, List.set_set]
  by_cases hv : v < r0.length
  · rw [List.getElem?_eq_getElem hv]
    simp
  · exact List.set_eq_of_length_le (by omega)
/-- a comprehension that changes nothing -/
theorem comp_pure {elt cond : PE} {v : Nat} {it : PIt} {items : List D} {ρ1 : Env} {p : D → Bool} {g : D → D} (hi : evalI T it ρ = .ok (items, ρ1)) (hf : fits it items = true) (hw : wipeOk ρ1 [v] = true) (hv : v < ρ1.length)
    (hc : ∀ x ∈ items, evalE T cond (ρ1.set v (some (.d, x))) = .ok ((.d, .bool (p x)), ρ1.set v (some (.d, x)))) (he : ∀ x ∈ items, p x = true → ∃ k, evalE T elt (ρ1.set v (some (.d, x))) = .ok ((k, g x), ρ1.set v (some (.d, x)))) :
    evalE T (.comp elt [v] (.var v) it cond) ρ = .ok ((.l .d, .list ((items.filter p).map g)), ρ1) := by
  have L : ∀ (xs : List D) (r : Env), (∀ x ∈ xs, x ∈ items) → r.set v none = ρ1.set v none → ∃ r2, r2.set v none = ρ1.set v none ∧ compLoop (fun x r => (bindT (.var v) x (wipe r [v])).bnd fun r1 => (evalE T cond r1).bnd fun q => (asBool q.1).bnd fun b => if b then ((evalE T elt q.2).bnd fun z => .ok (some z.1.2, z.2)) else .ok (none, q.2)) xs r = .ok ((xs.filter p).map g, r2) := by
    intro xs
    induction xs with
    | nil => exact fun r _ h => ⟨r, h, rfl⟩
    | cons x xs ih =>
      intro r hx h
      have hm := hx x List.mem_cons_self
      have hb : bindT (.var v) x (wipe r [v]) = .ok (ρ1.set v (some (.d, x))) := by
        show setS (r.set v none) v (.d, x) = _
        rw [h]
        unfold setS
        rw [if_pos (by rw [List.length_set]; exact hv), List.set_set]
      obtain ⟨r2, h2, e2⟩ := ih (ρ1.set v (some (.d, x))) (fun y hy => hx y (List.mem_cons_of_mem _ hy)) (by rw [List.set_set])
      refine ⟨r2, h2, ?_⟩
      show R.bnd (R.bnd (bindT (.var v) x (wipe r [v])) _) _ = _
      rw [hb]
      show R.bnd (R.bnd (evalE T cond (ρ1.set v (some (.d, x)))) _) _ = _
      rw [hc x hm]
      show R.bnd (if p x = true then _ else _) _ = _
      cases hp : p x with
      | true =>
        rw [if_pos rfl]
        obtain ⟨k, ee⟩ := he x hm hp
        rw [ee]
        show R.bnd (compLoop _ xs (ρ1.set v (some (.d, x)))) _ = _
        rw [e2, List.filter_cons_of_pos hp]
        rfl
      | false =>
        rw [if_neg (by decide)]
        show R.bnd (compLoop _ xs (ρ1.set v (some (.d, x)))) _ = _
        rw [e2, List.filter_cons_of_neg (by rw [hp]; decide)]
        rfl
  obtain ⟨r2, h2, e2⟩ := L items (ρ1.set v none) (fun _ h => h) (by rw [List.set_set])
  show R.bnd (evalI T it ρ) _ = _
  rw [hi]
  show (if (fits it items && wipeOk ρ1 [v]) = true then _ else _) = _
  rw [hf, hw]
  show R.bnd (compLoop _ items (ρ1.set v none)) _ = _
  refine (congrArg (R.bnd · _) e2).trans ?_
  show R.ok ((Kd.l .d, PyData.list _), back ρ1 r2 [v]) = _
  rw [back1 h2]
end PL
end

section
set_option Elab.async false
set_option linter.all false
set_option maxRecDepth 100000
set_option autoImplicit false
/-! PW2: loops. -/
namespace PL
open PySem
variable {T : Tbl} {ρ : Env}
/-- a loop, by what holds as the rest is yet to come -/
theorem for_gen {turn : D → Env → R Out} {Inv : List D → Env → Prop} {Post : Out → Prop}
    (step : ∀ x xs r, Inv (x :: xs) r → (∃ r', (turn x r = .ok (.nx r') ∨ turn x r = .ok (.ct r')) ∧ Inv xs r') ∨ (∃ r', turn x r = .ok (.bk r') ∧ Post (.nx r')) ∨ ∃ v r', turn x r = .ok (.rt v r') ∧ Post (.rt v r'))
    (done : ∀ r, Inv [] r → Post (.nx r)) : ∀ (items : List D) (r : Env), Inv items r → ∃ o, forLoop turn items r = .ok o ∧ Post o
  | [], r, h => ⟨_, rfl, done r h⟩
  | x :: xs, r, h => by
    rcases step x xs r h with ⟨r', e | e, h'⟩ | ⟨r', e, h'⟩ | ⟨v, r', e, h'⟩
    · obtain ⟨o, e2, h2⟩ := for_gen step done xs r' h'
      refine ⟨o, ?_, h2⟩
      show R.bnd (turn x r) _ = _
      rw [e]
      exact e2
    · obtain ⟨o, e2, h2⟩ := for_gen step done xs r' h'
      refine ⟨o, ?_, h2⟩
      show R.bnd (turn x r) _ = _
      rw [e]
      exact e2
    · refine ⟨_, ?_, h'⟩
      show R.bnd (turn x r) _ = _
      rw [e]
      rfl
    · refine ⟨_, ?_, h'⟩
      show R.bnd (turn x r) _ = _
      rw [e]
      rfl
theorem for_inv {turn : D → Env → R Out} {Inv : List D → Env → Prop} (step : ∀ x xs r, Inv (x :: xs) r → ∃ r', turn x r = .ok (.nx r') ∧ Inv xs r') (items : List D) (r : Env) (h : Inv items r) : ∃ r', forLoop turn items r = .ok (.nx r') ∧ Inv [] r' := by
  obtain ⟨o, e, h2⟩ := for_gen (turn := turn) (Inv := Inv) (Post := fun o => ∃ r', o = .nx r' ∧ Inv [] r') (fun x xs r h => by
    obtain ⟨r', e, h'⟩ := step x xs r h
    exact .inl ⟨r', .inl e, h'⟩) (fun r h => ⟨r, rfl, h⟩) items r h
  obtain ⟨r', rfl, h2⟩ := h2
  exact ⟨r', e, h2⟩
/-- a while loop, by a measure that the fuel covers -/
theorem while_gen {cond : Env → R (Bool × Env)} {body : Env → R Out} {Inv : Nat → Env → Prop} {Post : Env → Prop}
    (step : ∀ n r, Inv n r → (∃ r1, cond r = .ok (false, r1) ∧ Post r1) ∨ ∃ m r1 r2, n = m + 1 ∧ cond r = .ok (true, r1) ∧ body r1 = .ok (.nx r2) ∧ Inv m r2) : ∀ (n : Nat) (r : Env) (f : Nat), n < f → Inv n r → ∃ r', whileLoop cond body f r = .ok (.nx r') ∧ Post r'
  | n, r, 0, hf, _ => (Nat.not_lt_zero _ hf).elim
  | n, r, f + 1, hf, h => by
    rcases step n r h with ⟨r1, e, p⟩ | ⟨m, r1, r2, rfl, e, e2, h'⟩
    · refine ⟨r1, ?_, p⟩
      show R.bnd (cond r) _ = _
      rw [e]
      rfl
    · obtain ⟨r', e3, p⟩ := while_gen step m r2 f (by omega) h'
      refine ⟨r', ?_, p⟩
      show R.bnd (cond r) _ = _
      rw [e]
      show R.bnd (body r1) _ = _
      rw [e2]
      exact e3
/-- some of the items, each made to something -/
inductive Sel (P : D → D → Prop) (S : D → Prop) : List D → List D → Prop
  | nil : Sel P S [] []
  | take {x y : D} {xs ys : List D} : P x y → Sel P S xs ys → Sel P S (x :: xs) (y :: ys)
  | skip {x : D} {xs ys : List D} : S x → Sel P S xs ys → Sel P S (x :: xs) ys
/-- a comprehension that changes something -/
theorem comp_inv {elt cond : PE} {v : Nat} {it : PIt} {items : List D} {ρ1 : Env} {P : D → D → Prop} {S : D → Prop} {Inv : Env → Prop} (hi : evalI T it ρ = .ok (items, ρ1)) (hf : fits it items = true) (hw : wipeOk ρ1 [v] = true)
    (h0 : Inv (ρ1.set v none)) (hv : ∀ r, Inv r → v < r.length)
    (hc : ∀ x ∈ items, ∀ r, Inv r → (∃ r1, evalE T cond (r.set v (some (.d, x))) = .ok ((.d, .bool false), r1) ∧ S x ∧ Inv (r1.set v none)) ∨ ∃ r1 k y r2, evalE T cond (r.set v (some (.d, x))) = .ok ((.d, .bool true), r1) ∧ evalE T elt r1 = .ok ((k, y), r2) ∧ P x y ∧ Inv (r2.set v none)) :
    ∃ ys r2, evalE T (.comp elt [v] (.var v) it cond) ρ = .ok ((.l .d, .list ys), r2.set v (ρ1[v]?.getD none)) ∧ Inv r2 ∧ Sel P S items ys := by
  have L : ∀ (xs : List D) (r : Env), (∀ x ∈ xs, x ∈ items) → Inv (r.set v none) → ∃ ys r2, Inv (r2.set v none) ∧ Sel P S xs ys ∧ compLoop (fun x r => (bindT (.var v) x (wipe r [v])).bnd fun r1 => (evalE T cond r1).bnd fun q => (asBool q.1).bnd fun b => if b then ((evalE T elt q.2).bnd fun z => .ok (some z.1.2, z.2)) else .ok (none, q.2)) xs r = .ok (ys, r2) := by
    intro xs
    induction xs with
    | nil => exact fun r _ h => ⟨[], r, h, .nil, rfl⟩
    | cons x xs ih =>
      intro r hx h
      have hm := hx x List.mem_cons_self
      have hb : bindT (.var v) x (wipe r [v]) = .ok ((r.set v none).set v (some (.d, x))) := by
        show setS (r.set v none) v (.d, x) = _
        unfold setS
        rw [if_pos (hv _ h)]
      rcases hc x hm _ h with ⟨r1, e1, hs, h1⟩ | ⟨r1, k, y, r2, e1, e2, hp, h2⟩
      · obtain ⟨ys, r3, h3, hsel, e3⟩ := ih r1 (fun y hy => hx y (List.mem_cons_of_mem _ hy)) h1
        refine ⟨ys, r3, h3, .skip hs hsel, ?_⟩
        show R.bnd (R.bnd (bindT (.var v) x (wipe r [v])) _) _ = _
        rw [hb]
        show R.bnd (R.bnd (evalE T cond ((r.set v none).set v (some (.d, x)))) _) _ = _
        rw [e1]
        show R.bnd (compLoop _ xs r1) _ = _
        rw [e3]
        rfl
      · obtain ⟨ys, r3, h3, hsel, e3⟩ := ih r2 (fun y hy => hx y (List.mem_cons_of_mem _ hy)) h2
        refine ⟨y :: ys, r3, h3, .take hp hsel, ?_⟩
        show R.bnd (R.bnd (bindT (.var v) x (wipe r [v])) _) _ = _
        rw [hb]
        show R.bnd (R.bnd (evalE T cond ((r.set v none).set v (some (.d, x)))) _) _ = _
        rw [e1]
        show R.bnd (R.bnd (evalE T elt r1) _) _ = _
        rw [e2]
        show R.bnd (compLoop _ xs r2) _ = _
        rw [e3]
        rfl
  obtain ⟨ys, r2, h2, hsel, e2⟩ := L items (ρ1.set v none) (fun _ h => h) (by rw [List.set_set]; exact h0)
  refine ⟨ys, r2.set v none, ?_, h2, hsel⟩
  show R.bnd (evalI T it ρ) _ = _
  rw [hi]
  show (if (fits it items && wipeOk ρ1 [v]) = true then _ else _) = _
  rw [hf, hw]
  show R.bnd (compLoop _ items (ρ1.set v none)) _ = _
  refine (congrArg (R.bnd · _) e2).trans ?_
  show R.ok ((Kd.l .d, PyData.list ys), r2.set v (ρ1[v]?.getD none)) = _
  rw [List.set_set]
end PL
end

section
set_option Elab.async false
set_option linter.all false
set_option maxRecDepth 100000
set_option autoImplicit false
/-! PW3: what is alike; what is in what. -/
namespace PL
open PySem
/-- data that == may look at, so deep at most -/
def Sh (n : Nat) (d : D) : Prop := d.canLay0 = true ∧ d.depth ≤ n
theorem Sh.up {n m : Nat} {d : D} (h : Sh n d) (hm : n ≤ m) : Sh m d := ⟨h.1, Nat.le_trans h.2 hm⟩
theorem Sh.ok {n : Nat} {d : D} (h : Sh n d) (hn : n ≤ 64) : SeqAt.shaped d = true := by
  unfold SeqAt.shaped
  rw [h.1, decide_eq_true (Nat.le_trans h.2 hn)]
  rfl
theorem Sh.int {n : Nat} {i : Int} : Sh n (.int i) := ⟨rfl, Nat.zero_le _⟩
theorem Sh.bool {n : Nat} {i : Bool} : Sh n (.bool i) := ⟨rfl, Nat.zero_le _⟩
theorem Sh.non {n : Nat} : Sh n .none := ⟨rfl, Nat.zero_le _⟩
theorem sh_all {n : Nat} : ∀ {xs : List D}, (∀ x ∈ xs, Sh n x) → PyData.canLayAll0 xs = true ∧ PyData.depthAll xs ≤ n
  | [], _ => ⟨rfl, Nat.zero_le _⟩
  | x :: xs, h => by
    obtain ⟨h1, h2⟩ := h x List.mem_cons_self
    obtain ⟨h3, h4⟩ := sh_all fun y hy => h y (List.mem_cons_of_mem _ hy)
    refine ⟨?_, ?_⟩
    · show (PyData.canLay0 x && PyData.canLayAll0 xs) = true
      rw [h1, h3]
      rfl
    · show max (PyData.depth x) (PyData.depthAll xs) ≤ n
      omega
theorem Sh.tup {n : Nat} {xs : List D} (h : ∀ x ∈ xs, Sh n x) : Sh (n + 1) (.tuple xs) := ⟨(sh_all h).1, Nat.succ_le_succ (sh_all h).2⟩
theorem Sh.lst {n : Nat} {xs : List D} (h : ∀ x ∈ xs, Sh n x) : Sh (n + 1) (.list xs) := ⟨(sh_all h).1, Nat.succ_le_succ (sh_all h).2⟩
theorem Sh.ints {n : Nat} {ns : List Int} : ∀ x ∈ ofInts ns, Sh n x := fun x hx => by
  obtain ⟨i, _, rfl⟩ := List.mem_map.mp hx
  exact .int
theorem Sh.tints {n : Nat} {ns : List Int} : Sh (n + 1) (.tuple (ofInts ns)) := .tup Sh.ints
theorem Sh.tups {n : Nat} {ts : List (List Int)} : ∀ x ∈ ofTups ts, Sh (n + 1) x := fun x hx => by
  obtain ⟨i, _, rfl⟩ := List.mem_map.mp hx
  exact .tints
/-! ### operations -/
theorem op_eq {x y : D} (hx : SeqAt.shaped x = true) (hy : SeqAt.shaped y = true) : opV .eq [(.d, x), (.d, y)] = .ok (.d, .bool (PyData.eqv x y)) := by
  show R.bnd (eqD x y) _ = _
  unfold eqD
  rw [hx, hy]
  rfl
theorem op_ne {x y : D} (hx : SeqAt.shaped x = true) (hy : SeqAt.shaped y = true) : opV .ne [(.d, x), (.d, y)] = .ok (.d, .bool (!PyData.eqv x y)) := by
  show R.bnd (eqD x y) _ = _
  unfold eqD
  rw [hx, hy]
  rfl
theorem op_inTu {x : D} {ds : List D} (hx : SeqAt.shaped x = true) (hy : SeqAt.shaped (.tuple ds) = true) : opV .isin [(.d, x), (.d, .tuple ds)] = .ok (.d, .bool (ds.any fun z => PyData.eqv z x)) := by
  show R.bnd (if (SeqAt.shaped x && SeqAt.shaped (.tuple ds)) = true then _ else _) _ = _
  rw [hx, hy]
  rfl
theorem op_ninT {x : D} {ds : List D} (hx : SeqAt.shaped x = true) (hy : SeqAt.shaped (.tuple ds) = true) : opV .notin [(.d, x), (.d, .tuple ds)] = .ok (.d, .bool (!ds.any fun z => PyData.eqv z x)) := by
  show R.bnd (if (SeqAt.shaped x && SeqAt.shaped (.tuple ds)) = true then _ else _) _ = _
  rw [hx, hy]
  rfl
/-! ### what is alike -/
theorem eqv_int {a b : Int} : PyData.eqv (.int a) (.int b) = decide (a = b) := by
  show (a == b) = _
  rw [Bool.eq_iff_iff, beq_iff_eq, decide_eq_true_iff]
theorem eqvAll_ints : ∀ {a b : List Int}, PyData.eqvAll (ofInts a) (ofInts b) = decide (a = b)
  | [], [] => rfl
  | [], _ :: _ => rfl
  | _ :: _, [] => rfl
  | x :: xs, y :: ys => by
    show (PyData.eqv (.int x) (.int y) && PyData.eqvAll (ofInts xs) (ofInts ys)) = _
    rw [eqv_int, eqvAll_ints, Bool.eq_iff_iff]
    simp
theorem eqv_tints {a b : List Int} : PyData.eqv (.tuple (ofInts a)) (.tuple (ofInts b)) = decide (a = b) := eqvAll_ints
theorem any_int {ns : List Int} {i : Int} : ((ofInts ns).any fun z => PyData.eqv z (.int i)) = decide (i ∈ ns) := by
  unfold ofInts
  rw [List.any_map, Bool.eq_iff_iff, List.any_eq_true, decide_eq_true_iff]
  constructor
  · rintro ⟨j, hj, e⟩
    have e : PyData.eqv (.int j) (.int i) = true := e
    rw [eqv_int] at e
    exact of_decide_eq_true e ▸ hj
  · exact fun h => ⟨i, h, by show PyData.eqv (.int i) (.int i) = true; rw [eqv_int]; simp⟩
theorem any_tints {ts : List (List Int)} {t : List Int} : ((ofTups ts).any fun z => PyData.eqv z (.tuple (ofInts t))) = decide (t ∈ ts) := by
  unfold ofTups
  rw [List.any_map, Bool.eq_iff_iff, List.any_eq_true, decide_eq_true_iff]
  constructor
  · rintro ⟨j, hj, e⟩
    have e : PyData.eqv (.tuple (ofInts j)) (.tuple (ofInts t)) = true := e
    rw [eqv_tints] at e
    exact of_decide_eq_true e ▸ hj
  · exact fun h => ⟨t, h, by show PyData.eqv (.tuple (ofInts t)) (.tuple (ofInts t)) = true; rw [eqv_tints]; simp⟩
theorem op_inInts {i : Int} {ns : List Int} : opV .isin [(.d, .int i), (.d, .tuple (ofInts ns))] = .ok (.d, .bool (decide (i ∈ ns))) := by
  rw [op_inTu (Sh.int (n := 0)|>.ok (by decide)) ((Sh.tints (n := 0)).ok (by decide)), any_int]
theorem op_ninInts {i : Int} {ns : List Int} : opV .notin [(.d, .int i), (.d, .tuple (ofInts ns))] = .ok (.d, .bool (!decide (i ∈ ns))) := by
  rw [op_ninT (Sh.int (n := 0)|>.ok (by decide)) ((Sh.tints (n := 0)).ok (by decide)), any_int]
theorem op_inTups {t : List Int} {ts : List (List Int)} : opV .isin [(.d, .tuple (ofInts t)), (.d, .tuple (ofTups ts))] = .ok (.d, .bool (decide (t ∈ ts))) := by
  rw [op_inTu ((Sh.tints (n := 0)).ok (by decide)) ((Sh.tup (n := 1) (Sh.tups (n := 0))).ok (by decide)), any_tints]
theorem op_ninTups {t : List Int} {ts : List (List Int)} : opV .notin [(.d, .tuple (ofInts t)), (.d, .tuple (ofTups ts))] = .ok (.d, .bool (!decide (t ∈ ts))) := by
  rw [op_ninT ((Sh.tints (n := 0)).ok (by decide)) ((Sh.tup (n := 1) (Sh.tups (n := 0))).ok (by decide)), any_tints]
theorem op_eqI {a b : Int} : opV .eq [(.d, .int a), (.d, .int b)] = .ok (.d, .bool (decide (a = b))) := by
  rw [op_eq ((Sh.int (n := 0)).ok (by decide)) ((Sh.int (n := 0)).ok (by decide)), eqv_int]
theorem op_neI {a b : Int} : opV .ne [(.d, .int a), (.d, .int b)] = .ok (.d, .bool (!decide (a = b))) := by
  rw [op_ne ((Sh.int (n := 0)).ok (by decide)) ((Sh.int (n := 0)).ok (by decide)), eqv_int]
theorem op_eqB {a b : Bool} : opV .eq [(.d, .bool a), (.d, .bool b)] = .ok (.d, .bool (a == b)) := by
  rw [op_eq ((Sh.bool (n := 0)).ok (by decide)) ((Sh.bool (n := 0)).ok (by decide))]
  rfl
theorem op_neB {a b : Bool} : opV .ne [(.d, .bool a), (.d, .bool b)] = .ok (.d, .bool (!(a == b))) := by
  rw [op_ne ((Sh.bool (n := 0)).ok (by decide)) ((Sh.bool (n := 0)).ok (by decide))]
  rfl
theorem op_neT {a b : List Int} : opV .ne [(.d, .tuple (ofInts a)), (.d, .tuple (ofInts b))] = .ok (.d, .bool (!decide (a = b))) := by
  rw [op_ne ((Sh.tints (n := 0)).ok (by decide)) ((Sh.tints (n := 0)).ok (by decide)), eqv_tints]
theorem op_eqT {a b : List Int} : opV .eq [(.d, .tuple (ofInts a)), (.d, .tuple (ofInts b))] = .ok (.d, .bool (decide (a = b))) := by
  rw [op_eq ((Sh.tints (n := 0)).ok (by decide)) ((Sh.tints (n := 0)).ok (by decide)), eqv_tints]
theorem intsOf_ofInts : ∀ {t : List Int}, intsOf (ofInts t) = some t
  | [] => rfl
  | i :: t => by
    show (intsOf (ofInts t)).map (i :: ·) = _
    rw [intsOf_ofInts]
    rfl
def onTup (p : List Int → Bool) : D → Bool
  | .tuple ds => match intsOf ds with
    | some t => p t
    | none => false
  | _ => false
theorem onTup_ok {p : List Int → Bool} {t : List Int} : onTup p (.tuple (ofInts t)) = p t := by
  show (match intsOf (ofInts t) with
    | some t => p t
    | none => false) = _
  rw [intsOf_ofInts]
theorem filt_tups {p : List Int → Bool} {ts : List (List Int)} : ((ofTups ts).filter (onTup p)).map (fun x => x) = ofTups (ts.filter p) := by
  unfold ofTups
  rw [List.map_id', List.filter_map]
  congr 1
  exact List.filter_congr fun t _ => onTup_ok
/-- some of the tuples of whole numbers -/
theorem comp_tups {T : Tbl} {ρ : Env} {cond : PE} {v : Nat} {it : PIt} {ts : List (List Int)} {ρ1 : Env} {p : List Int → Bool} (hi : evalI T it ρ = .ok (ofTups ts, ρ1)) (hf : fits it (ofTups ts) = true) (hw : wipeOk ρ1 [v] = true) (hv : v < ρ1.length)
    (hc : ∀ t ∈ ts, evalE T cond (ρ1.set v (some (.d, .tuple (ofInts t)))) = .ok ((.d, .bool (p t)), ρ1.set v (some (.d, .tuple (ofInts t))))) :
    evalE T (.comp (.var v) [v] (.var v) it cond) ρ = .ok ((.l .d, .list (ofTups (ts.filter p))), ρ1) := by
  refine (comp_pure (p := onTup p) (g := fun x => x) hi hf hw hv (fun x hx => ?_) fun x hx _ => ⟨.d, ?_⟩).trans (by rw [filt_tups])
  · obtain ⟨t, ht, rfl⟩ := List.mem_map.mp hx
    rw [onTup_ok]
    exact hc t ht
  · rw [ev_var, readV_eq, List.getElem?_set_self hv]
    rfl
end PL
end

section
set_option Elab.async false
set_option linter.all false
set_option maxRecDepth 100000
set_option autoImplicit false
/-! PL02: the plain law of k02. -/
namespace PL
open PySem
theorem run_rt {T : Tbl} {p : PDef} {args ws : List SV} {v : SV} {ρ : Env} (h : args.length = p.np ∧ p.np ≤ p.ns ∧ (ownPars 0 args).all (fun i => !(tgSs p.body).contains i) = true) (e : execSs T p.body (args.map some ++ List.replicate (p.ns - p.np) none) = .ok (.rt v ρ)) (l : leave args ρ = .ok ws) : runDef T p args = .ok (v, ws) := by
  unfold runDef
  rw [if_pos h]
  show R.bnd (execSs T p.body _) _ = _
  rw [e]
  show R.bnd (leave args ρ) _ = _
  rw [l]
  rfl
theorem run_nx {T : Tbl} {p : PDef} {args ws : List SV} {ρ : Env} (h : args.length = p.np ∧ p.np ≤ p.ns ∧ (ownPars 0 args).all (fun i => !(tgSs p.body).contains i) = true) (e : execSs T p.body (args.map some ++ List.replicate (p.ns - p.np) none) = .ok (.nx ρ)) (l : leave args ρ = .ok ws) : runDef T p args = .ok ((.d, .none), ws) := by
  unfold runDef
  rw [if_pos h]
  show R.bnd (execSs T p.body _) _ = _
  rw [e]
  show R.bnd (leave args ρ) _ = _
  rw [l]
  rfl
theorem fmod_in {a m : Int} (h : 0 < m) : 0 ≤ a.fmod m ∧ a.fmod m < m := ⟨Int.fmod_nonneg_of_pos a h, Int.fmod_lt_of_pos a h⟩
namespace K02
/-- the box: two numbers -/
def bx (g n : Int) : SV := (.l .d, .list [.int g, .int n])
def TakeOk (T : Tbl) : Prop := ∀ g n m : Int, 0 < m → m < 1073741824 → ∃ d g' n', T.f 12 [bx g n, (.d, .int m)] = .ok ((.d, .int d), [bx g' n', (.d, .int m)]) ∧ 0 ≤ d ∧ d < m
theorem take_run (T : Tbl) (g n m : Int) (hm : 0 < m) (hm2 : m < 1073741824) : ∃ d g' n', runDef T p12_law_take [bx g n, (.d, .int m)] = .ok ((.d, .int d), [bx g' n', (.d, .int m)]) ∧ 0 ≤ d ∧ d < m := by
  have m0 : m ≠ 0 := by omega
  have m1 : m.natAbs < 1073741824 := by omega
  by_cases hg : 0 < g
  · have hg := decide_eq_true hg
    refine ⟨g.fmod m, g.fdiv m, n, run_rt (ρ := [some (.l .d, .list [.int (g.fdiv m), .int n]), some (.d, .int m), none, none]) ⟨rfl, by decide, rfl⟩ ?_ rfl, fmod_in hm⟩
    show execSs T p12_law_take.body [some (.l .d, .list [.int g, .int n]), some (.d, .int m), none, none] = _
    unfold p12_law_take
    simp -dsimp -implicitDefEqProofs only [ex_nil, ex_cons, then_nx, then_rt, then_ct, then_bk, ex_asg, ex_asgT, ex_par, ex_ret, ex_retMv, ex_ite, ex_brk, ex_cont, ev_var, ev_int, ev_bl, ev_non, ev_str, ev_dct, ev_tup, ev_lst, ev_op, ev_call, ev_and, ev_or, ev_not, ev_ifx, evs_nil, evs_cons, esv_nil, esv_cons, eas_nil, eas_var, eas_op, eas_int, eas_bl, eas_non, eas_str, eas_tup, eas_lst, eas_dct, eas_call, eas_and, eas_or, eas_not, eas_ifx, eas_comp, eas_slc, ex_put, putIn_l, ixN0, ixN1, fill_nil, fill_inl, fill_inr, asB_ok, bnd_ok, bnd_no, iff_t, iff_f, op_add, op_sub, op_neg, op_mul, op_fdiv, op_mod, op_gt, op_ge, op_lt, op_le, op_int, op_abs, op_min2, op_max2, op_lenL, op_lenS, op_lenD, op_lenT, op_tupL, op_tupD, op_ixL, op_ixD, op_ixS, op_ixT, atI0, atI1, setS_in, readV_eq, readO_d, readO_l, get_eq, getO_some, ixO_some, putO_some, List.getElem?_cons_zero, List.getElem?_cons_succ, List.set_cons_zero, List.set_cons_succ, List.length_cons, List.length_nil, Nat.reduceAdd, Nat.reduceLT, ne_eq, not_false_eq_true, and_self, true_and, and_true, hg, m0, m1]
  · have hg := decide_eq_false hg
    have l1 : ∀ x : Int, (lim x || lim 39373) = true := fun x => by rw [show lim 39373 = true from by decide, Bool.or_true]
    have l2 : ∀ x : Int, (lim x || lim 40692) = true := fun x => by rw [show lim 40692 = true from by decide, Bool.or_true]
    have l3 : ∀ x : Int, (lim x || lim 2147483629) = true := fun x => by rw [show lim 2147483629 = true from by decide, Bool.or_true]
    have c1 : ¬ ((2147483647 : Int) = 0) := by decide
    have c2 : ¬ ((2147483399 : Int) = 0) := by decide
    have c3 : ¬ ((8231 : Int) = 0) := by decide
    have c4 : (8231 : Int).natAbs < 1073741824 := by decide
    refine ⟨_, _, _, run_rt ⟨rfl, by decide, rfl⟩ (by
      show execSs T p12_law_take.body [some (.l .d, .list [.int g, .int n]), some (.d, .int m), none, none] = _
      unfold p12_law_take
      simp -dsimp -implicitDefEqProofs only [ex_nil, ex_cons, then_nx, then_rt, then_ct, then_bk, ex_asg, ex_asgT, ex_par, ex_ret, ex_retMv, ex_ite, ex_brk, ex_cont, ev_var, ev_int, ev_bl, ev_non, ev_str, ev_dct, ev_tup, ev_lst, ev_op, ev_call, ev_and, ev_or, ev_not, ev_ifx, evs_nil, evs_cons, esv_nil, esv_cons, eas_nil, eas_var, eas_op, eas_int, eas_bl, eas_non, eas_str, eas_tup, eas_lst, eas_dct, eas_call, eas_and, eas_or, eas_not, eas_ifx, eas_comp, eas_slc, ex_put, putIn_l, ixN0, ixN1, fill_nil, fill_inl, fill_inr, asB_ok, bnd_ok, bnd_no, iff_t, iff_f, op_add, op_sub, op_neg, op_mul, op_fdiv, op_mod, op_gt, op_ge, op_lt, op_le, op_int, op_abs, op_min2, op_max2, op_lenL, op_lenS, op_lenD, op_lenT, op_tupL, op_tupD, op_ixL, op_ixD, op_ixS, op_ixT, atI0, atI1, setS_in, readV_eq, readO_d, readO_l, get_eq, getO_some, ixO_some, putO_some, List.getElem?_cons_zero, List.getElem?_cons_succ, List.set_cons_zero, List.set_cons_succ, List.length_cons, List.length_nil, Nat.reduceAdd, Nat.reduceLT, ne_eq, not_false_eq_true, and_self, true_and, and_true, hg, m0, m1, l1, l2, l3, c1, c2, c3, c4]
      rfl) rfl, fmod_in hm⟩
theorem own_l {j : Nat} {x : D} {r : List (Sum Nat D)} {vs : List SV} : ownRefs (.inl j :: r) ((.l .d, x) :: vs) = j :: ownRefs r vs := (rfl)
theorem own_d {j : Nat} {x : D} {r : List (Sum Nat D)} {vs : List SV} : ownRefs (.inl j :: r) ((.d, x) :: vs) = ownRefs r vs := (rfl)
theorem own_s {j : Nat} {x : D} {r : List (Sum Nat D)} {vs : List SV} : ownRefs (.inl j :: r) ((.s, x) :: vs) = j :: ownRefs r vs := (rfl)
theorem own_r {x : D} {v : SV} {r : List (Sum Nat D)} {vs : List SV} : ownRefs (.inr x :: r) (v :: vs) = ownRefs r vs := (rfl)
theorem own_n {vs : List SV} : ownRefs [] vs = [] := (rfl)
theorem nd_nil : nodupN [] = true := (rfl)
theorem nd_one {a : Nat} : nodupN [a] = true := (rfl)
theorem pb_l {ρ : Env} {j : Nat} {x : D} {w : SV} {r : List (Sum Nat D)} {vs ws : List SV} : putBack ρ (.inl j :: r) ((.l .d, x) :: vs) (w :: ws) = putBack (ρ.set j (some w)) r vs ws := (rfl)
theorem pb_s {ρ : Env} {j : Nat} {x : D} {w : SV} {r : List (Sum Nat D)} {vs ws : List SV} : putBack ρ (.inl j :: r) ((.s, x) :: vs) (w :: ws) = putBack (ρ.set j (some w)) r vs ws := (rfl)
theorem pb_d {ρ : Env} {j : Nat} {x : D} {w : SV} {r : List (Sum Nat D)} {vs ws : List SV} : putBack ρ (.inl j :: r) ((.d, x) :: vs) (w :: ws) = putBack ρ r vs ws := (rfl)
theorem pb_r {ρ : Env} {x : D} {v w : SV} {r : List (Sum Nat D)} {vs ws : List SV} : putBack ρ (.inr x :: r) (v :: vs) (w :: ws) = putBack ρ r vs ws := (rfl)
theorem pb_n {ρ : Env} {vs ws : List SV} : putBack ρ [] vs ws = ρ := (rfl)
theorem noS_d : noS .d = true := (rfl)
theorem noS_l : noS (.l .d) = true := (rfl)
theorem atI_nat {xs : List D} {i : Int} (h0 : 0 ≤ i) (h1 : i < xs.length) : ∃ x, x ∈ xs ∧ atI xs i = some x := by
  have hl : i.toNat < xs.length := by omega
  refine ⟨xs[i.toNat], List.getElem_mem hl, ?_⟩
  unfold atI ixN
  rw [if_pos h0, if_pos h1]
  show xs[i.toNat]? = _
  rw [List.getElem?_eq_getElem hl]
def PickOk (T : Tbl) : Prop := ∀ (g n : Int) (xs : List D), xs ≠ [] → xs.length < 1073741824 → ∃ x g' n', T.f 13 [bx g n, (.d, .list xs)] = .ok ((.d, x), [bx g' n', (.d, .list xs)]) ∧ x ∈ xs
theorem pick_run (T : Tbl) (ht : TakeOk T) (g n : Int) (xs : List D) (h0 : xs ≠ []) (h1 : xs.length < 1073741824) : ∃ x g' n', runDef T p13_law_pick [bx g n, (.d, .list xs)] = .ok ((.d, x), [bx g' n', (.d, .list xs)]) ∧ x ∈ xs := by
  have hp : 0 < xs.length := List.length_pos_iff.mpr h0
  obtain ⟨d, g', n', e, d0, d1⟩ := ht g n xs.length (by omega) (by omega)
  obtain ⟨x, hx, ex⟩ := atI_nat d0 d1
  refine ⟨x, g', n', run_rt (ρ := [some (bx g' n'), some (.d, .list xs)]) ⟨rfl, by decide, rfl⟩ ?_ rfl, hx⟩
  show execSs T p13_law_pick.body [some (bx g n), some (.d, .list xs)] = _
  unfold p13_law_pick
  unfold bx at *
  simp -dsimp -implicitDefEqProofs only [ex_nil, ex_cons, then_nx, then_rt, then_ct, then_bk, ex_asg, ex_asgT, ex_par, ex_ret, ex_retMv, ex_ite, ex_brk, ex_cont, ev_var, ev_int, ev_bl, ev_non, ev_str, ev_dct, ev_tup, ev_lst, ev_op, ev_call, ev_and, ev_or, ev_not, ev_ifx, evs_nil, evs_cons, esv_nil, esv_cons, eas_nil, eas_var, eas_op, eas_int, eas_bl, eas_non, eas_str, eas_tup, eas_lst, eas_dct, eas_call, eas_and, eas_or, eas_not, eas_ifx, eas_comp, eas_slc, ex_put, putIn_l, ixN0, ixN1, fill_nil, fill_inl, fill_inr, asB_ok, bnd_ok, bnd_no, iff_t, iff_f, op_add, op_sub, op_neg, op_mul, op_fdiv, op_mod, op_gt, op_ge, op_lt, op_le, op_int, op_abs, op_min2, op_max2, op_lenL, op_lenS, op_lenD, op_lenT, op_tupL, op_tupD, op_ixL, op_ixD, op_ixS, op_ixT, atI0, atI1, setS_in, readV_eq, readO_d, readO_l, get_eq, getO_some, ixO_some, putO_some, List.getElem?_cons_zero, List.getElem?_cons_succ, List.set_cons_zero, List.set_cons_succ, List.length_cons, List.length_nil, Nat.reduceAdd, Nat.reduceLT, ne_eq, not_false_eq_true, and_self, true_and, and_true, own_l, own_d, own_s, own_r, own_n, nd_nil, nd_one, pb_l, pb_s, pb_d, pb_r, pb_n, noS_d, noS_l, e, ex]
/-! ### lots -/
def subsOf (xs : List Int) : List (List Int) := xs.foldl (fun acc b => acc ++ acc.map fun l => l ++ [b]) [[]]
def upto (b : Nat) : List Int := (List.range b).map fun (i : Nat) => (i : Int)
/-- all lots of so many bells, in their order -/
def LL (b : Nat) : List (List Int) := (sortLex (subsOf (upto b))).drop 1
theorem lots1 (T : Tbl) : runDef T p51_law_lots [(.d, .int 1)] = .ok ((.l .d, .list (ofTups (LL 1))), [(.d, .int 1)]) := by kernel_rfl
theorem lots2 (T : Tbl) : runDef T p51_law_lots [(.d, .int 2)] = .ok ((.l .d, .list (ofTups (LL 2))), [(.d, .int 2)]) := by kernel_rfl
theorem lots3 (T : Tbl) : runDef T p51_law_lots [(.d, .int 3)] = .ok ((.l .d, .list (ofTups (LL 3))), [(.d, .int 3)]) := by kernel_rfl
theorem lots4 (T : Tbl) : runDef T p51_law_lots [(.d, .int 4)] = .ok ((.l .d, .list (ofTups (LL 4))), [(.d, .int 4)]) := by kernel_rfl
theorem lots5 (T : Tbl) : runDef T p51_law_lots [(.d, .int 5)] = .ok ((.l .d, .list (ofTups (LL 5))), [(.d, .int 5)]) := by kernel_rfl
theorem lots_run (T : Tbl) (b : Nat) (h1 : 1 ≤ b) (h5 : b ≤ 5) : runDef T p51_law_lots [(.d, .int b)] = .ok ((.l .d, .list (ofTups (LL b))), [(.d, .int b)]) := by
  have : b = 1 ∨ b = 2 ∨ b = 3 ∨ b = 4 ∨ b = 5 := by omega
  rcases this with rfl | rfl | rfl | rfl | rfl
  · exact lots1 T
  · exact lots2 T
  · exact lots3 T
  · exact lots4 T
  · exact lots5 T
/-! ### the box -/
theorem op_pow10 : opV .pow [(.d, .int 10), (.d, .int 18)] = .ok (.d, .int 1000000000000000000) := by kernel_rfl
theorem op_mulL {a b : Int} (h : lim a = true) : opV .mul [(.d, .int a), (.d, .int b)] = .ok (.d, .int (a * b)) := op_mul (by rw [h, Bool.true_or])
theorem op_mulR {a b : Int} (h : lim b = true) : opV .mul [(.d, .int a), (.d, .int b)] = .ok (.d, .int (a * b)) := op_mul (by rw [h, Bool.or_true])
theorem box_tail (T : Tbl) (a : Option SV) (k c : Int) : ∃ g n x, execSs T (p11_law_box.body.drop 2) [a, some (.d, .int k), some (.d, .int c), none] = .ok (.rt (bx g n) [a, some (.d, .int k), some (.d, .int c), x]) := by
  have c1 : ¬ ((2147483563 : Int) = 0) := by decide
  have m1 : lim 40014 = true := by decide
  have m2 : lim 3607 = true := by decide
  have e : ∃ z, evalE T (.ifx (.op .ge [.var 2, .op .pow [.int 10, .int 18]]) (.var 2) (.int 0)) [a, some (.d, .int k), some (.d, .int c), none] = .ok ((.d, .int z), [a, some (.d, .int k), some (.d, .int c), none]) := by
    by_cases h : 1000000000000000000 ≤ c
    · have h := decide_eq_true h
      refine ⟨c, ?_⟩
      simp -dsimp -implicitDefEqProofs only [ex_nil, ex_cons, then_nx, then_rt, then_ct, then_bk, ex_asg, ex_asgT, ex_par, ex_ret, ex_retMv, ex_ite, ex_brk, ex_cont, ev_var, ev_int, ev_bl, ev_non, ev_str, ev_dct, ev_tup, ev_lst, ev_op, ev_call, ev_and, ev_or, ev_not, ev_ifx, evs_nil, evs_cons, esv_nil, esv_cons, eas_nil, eas_var, eas_op, eas_int, eas_bl, eas_non, eas_str, eas_tup, eas_lst, eas_dct, eas_call, eas_and, eas_or, eas_not, eas_ifx, eas_comp, eas_slc, ex_put, putIn_l, ixN0, ixN1, fill_nil, fill_inl, fill_inr, asB_ok, bnd_ok, bnd_no, iff_t, iff_f, op_add, op_sub, op_neg, op_mul, op_fdiv, op_mod, op_gt, op_ge, op_lt, op_le, op_int, op_abs, op_min2, op_max2, op_lenL, op_lenS, op_lenD, op_lenT, op_tupL, op_tupD, op_ixL, op_ixD, op_ixS, op_ixT, atI0, atI1, setS_in, readV_eq, readO_d, readO_l, get_eq, getO_some, ixO_some, putO_some, List.getElem?_cons_zero, List.getElem?_cons_succ, List.set_cons_zero, List.set_cons_succ, List.length_cons, List.length_nil, Nat.reduceAdd, Nat.reduceLT, ne_eq, not_false_eq_true, and_self, true_and, and_true, op_pow10, h]
    · have h := decide_eq_false h
      refine ⟨0, ?_⟩
      simp -dsimp -implicitDefEqProofs only [ex_nil, ex_cons, then_nx, then_rt, then_ct, then_bk, ex_asg, ex_asgT, ex_par, ex_ret, ex_retMv, ex_ite, ex_brk, ex_cont, ev_var, ev_int, ev_bl, ev_non, ev_str, ev_dct, ev_tup, ev_lst, ev_op, ev_call, ev_and, ev_or, ev_not, ev_ifx, evs_nil, evs_cons, esv_nil, esv_cons, eas_nil, eas_var, eas_op, eas_int, eas_bl, eas_non, eas_str, eas_tup, eas_lst, eas_dct, eas_call, eas_and, eas_or, eas_not, eas_ifx, eas_comp, eas_slc, ex_put, putIn_l, ixN0, ixN1, fill_nil, fill_inl, fill_inr, asB_ok, bnd_ok, bnd_no, iff_t, iff_f, op_add, op_sub, op_neg, op_mul, op_fdiv, op_mod, op_gt, op_ge, op_lt, op_le, op_int, op_abs, op_min2, op_max2, op_lenL, op_lenS, op_lenD, op_lenT, op_tupL, op_tupD, op_ixL, op_ixD, op_ixS, op_ixT, atI0, atI1, setS_in, readV_eq, readO_d, readO_l, get_eq, getO_some, ixO_some, putO_some, List.getElem?_cons_zero, List.getElem?_cons_succ, List.set_cons_zero, List.set_cons_succ, List.length_cons, List.length_nil, Nat.reduceAdd, Nat.reduceLT, ne_eq, not_false_eq_true, and_self, true_and, and_true, op_pow10, h]
  obtain ⟨z, e⟩ := e
  refine ⟨z, (c.fmod 2147483563 * 40014 + 3607 * k).fmod 2147483563 + 1, some (.d, .int z), ?_⟩
  show execSs T [_, _] _ = _
  rw [ex_cons, ex_asg, e]
  unfold bx
  simp -dsimp -implicitDefEqProofs only [ex_nil, ex_cons, then_nx, then_rt, then_ct, then_bk, ex_asg, ex_asgT, ex_par, ex_ret, ex_retMv, ex_ite, ex_brk, ex_cont, ev_var, ev_int, ev_bl, ev_non, ev_str, ev_dct, ev_tup, ev_lst, ev_op, ev_call, ev_and, ev_or, ev_not, ev_ifx, evs_nil, evs_cons, esv_nil, esv_cons, eas_nil, eas_var, eas_op, eas_int, eas_bl, eas_non, eas_str, eas_tup, eas_lst, eas_dct, eas_call, eas_and, eas_or, eas_not, eas_ifx, eas_comp, eas_slc, ex_put, putIn_l, ixN0, ixN1, fill_nil, fill_inl, fill_inr, asB_ok, bnd_ok, bnd_no, iff_t, iff_f, op_add, op_sub, op_neg, op_mul, op_fdiv, op_mod, op_gt, op_ge, op_lt, op_le, op_int, op_abs, op_min2, op_max2, op_lenL, op_lenS, op_lenD, op_lenT, op_tupL, op_tupD, op_ixL, op_ixD, op_ixS, op_ixT, atI0, atI1, setS_in, readV_eq, readO_d, readO_l, get_eq, getO_some, ixO_some, putO_some, List.getElem?_cons_zero, List.getElem?_cons_succ, List.set_cons_zero, List.set_cons_succ, List.length_cons, List.length_nil, Nat.reduceAdd, Nat.reduceLT, ne_eq, not_false_eq_true, and_self, true_and, and_true, c1, m1, m2, op_mulL, op_mulR]
theorem ofInts_at {ns : List Int} {i : Int} (h0 : 0 ≤ i) (h1 : i < ns.length) : ∃ z, atI (ofInts ns) i = some (.int z) := by
  obtain ⟨x, hx, e⟩ := atI_nat (xs := ofInts ns) h0 (by unfold ofInts; rw [List.length_map]; exact h1)
  obtain ⟨z, _, rfl⟩ := List.mem_map.mp hx
  exact ⟨z, e⟩
theorem ofInts_len {ns : List Int} : (ofInts ns).length = ns.length := List.length_map ..
theorem box_run (T : Tbl) (ns : List Int) (k : Int) (hk : 0 ≤ k) : ∃ g n, runDef T p11_law_box [(.s, .list (ofInts ns)), (.d, .int k)] = .ok (bx g n, [(.s, .list (ofInts ns)), (.d, .int k)]) := by
  have m1 : lim 7919 = true := by decide
  have m2 : lim 48271 = true := by decide
  have c1 : ¬ ((2147483563 : Int) = 0) := by decide
  have H : ∃ c, execSs T (p11_law_box.body.take 2) [some (.s, .list (ofInts ns)), some (.d, .int k), none, none] = .ok (.nx [some (.s, .list (ofInts ns)), some (.d, .int k), some (.d, .int c), none]) := by
    by_cases h1 : k < (ofInts ns).length
    · obtain ⟨z, ez⟩ := ofInts_at (ns := ns) hk (by rw [ofInts_len] at h1; exact h1)
      have h1 := decide_eq_true h1
      refine ⟨if z < 0 then -z else z, ?_⟩
      show execSs T [_, _] _ = _
      simp -dsimp -implicitDefEqProofs only [ex_nil, ex_cons, then_nx, then_rt, then_ct, then_bk, ex_asg, ex_asgT, ex_par, ex_ret, ex_retMv, ex_ite, ex_brk, ex_cont, ev_var, ev_int, ev_bl, ev_non, ev_str, ev_dct, ev_tup, ev_lst, ev_op, ev_call, ev_and, ev_or, ev_not, ev_ifx, evs_nil, evs_cons, esv_nil, esv_cons, eas_nil, eas_var, eas_op, eas_int, eas_bl, eas_non, eas_str, eas_tup, eas_lst, eas_dct, eas_call, eas_and, eas_or, eas_not, eas_ifx, eas_comp, eas_slc, ex_put, putIn_l, ixN0, ixN1, fill_nil, fill_inl, fill_inr, asB_ok, bnd_ok, bnd_no, iff_t, iff_f, op_add, op_sub, op_neg, op_mul, op_fdiv, op_mod, op_gt, op_ge, op_lt, op_le, op_int, op_abs, op_min2, op_max2, op_lenL, op_lenS, op_lenD, op_lenT, op_tupL, op_tupD, op_ixL, op_ixD, op_ixS, op_ixT, atI0, atI1, setS_in, readV_eq, readO_d, readO_l, get_eq, getO_some, ixO_some, putO_some, List.getElem?_cons_zero, List.getElem?_cons_succ, List.set_cons_zero, List.set_cons_succ, List.length_cons, List.length_nil, Nat.reduceAdd, Nat.reduceLT, ne_eq, not_false_eq_true, and_self, true_and, and_true, m1, op_mulL, op_lenS, h1, ez]
    · by_cases h2 : 0 < ((ofInts ns).length : Int)
      · have hl : (0 : Int) < ns.length := by rw [ofInts_len] at h2; exact h2
        obtain ⟨f0, f1⟩ := fmod_in (a := k) hl
        obtain ⟨z, ez⟩ := ofInts_at (ns := ns) f0 f1
        have ez : atI (ofInts ns) (k.fmod (ofInts ns).length) = some (.int z) := by rw [ofInts_len]; exact ez
        have h1 := decide_eq_false h1
        have hn : ¬ (((ofInts ns).length : Int) = 0) := by omega
        have h2 := decide_eq_true h2
        refine ⟨7919 * k + 3607 + (if z < 0 then -z else z).fmod 2147483563 * 48271, ?_⟩
        show execSs T [_, _] _ = _
        simp -dsimp -implicitDefEqProofs only [ex_nil, ex_cons, then_nx, then_rt, then_ct, then_bk, ex_asg, ex_asgT, ex_par, ex_ret, ex_retMv, ex_ite, ex_brk, ex_cont, ev_var, ev_int, ev_bl, ev_non, ev_str, ev_dct, ev_tup, ev_lst, ev_op, ev_call, ev_and, ev_or, ev_not, ev_ifx, evs_nil, evs_cons, esv_nil, esv_cons, eas_nil, eas_var, eas_op, eas_int, eas_bl, eas_non, eas_str, eas_tup, eas_lst, eas_dct, eas_call, eas_and, eas_or, eas_not, eas_ifx, eas_comp, eas_slc, ex_put, putIn_l, ixN0, ixN1, fill_nil, fill_inl, fill_inr, asB_ok, bnd_ok, bnd_no, iff_t, iff_f, op_add, op_sub, op_neg, op_mul, op_fdiv, op_mod, op_gt, op_ge, op_lt, op_le, op_int, op_abs, op_min2, op_max2, op_lenL, op_lenS, op_lenD, op_lenT, op_tupL, op_tupD, op_ixL, op_ixD, op_ixS, op_ixT, atI0, atI1, setS_in, readV_eq, readO_d, readO_l, get_eq, getO_some, ixO_some, putO_some, List.getElem?_cons_zero, List.getElem?_cons_succ, List.set_cons_zero, List.set_cons_succ, List.length_cons, List.length_nil, Nat.reduceAdd, Nat.reduceLT, ne_eq, not_false_eq_true, and_self, true_and, and_true, m1, m2, c1, op_mulL, op_mulR, op_lenS, h1, h2, hn, ez]
      · have h1 := decide_eq_false h1
        have h2 := decide_eq_false h2
        refine ⟨7919 * k + 3607, ?_⟩
        show execSs T [_, _] _ = _
        simp -dsimp -implicitDefEqProofs only [ex_nil, ex_cons, then_nx, then_rt, then_ct, then_bk, ex_asg, ex_asgT, ex_par, ex_ret, ex_retMv, ex_ite, ex_brk, ex_cont, ev_var, ev_int, ev_bl, ev_non, ev_str, ev_dct, ev_tup, ev_lst, ev_op, ev_call, ev_and, ev_or, ev_not, ev_ifx, evs_nil, evs_cons, esv_nil, esv_cons, eas_nil, eas_var, eas_op, eas_int, eas_bl, eas_non, eas_str, eas_tup, eas_lst, eas_dct, eas_call, eas_and, eas_or, eas_not, eas_ifx, eas_comp, eas_slc, ex_put, putIn_l, ixN0, ixN1, fill_nil, fill_inl, fill_inr, asB_ok, bnd_ok, bnd_no, iff_t, iff_f, op_add, op_sub, op_neg, op_mul, op_fdiv, op_mod, op_gt, op_ge, op_lt, op_le, op_int, op_abs, op_min2, op_max2, op_lenL, op_lenS, op_lenD, op_lenT, op_tupL, op_tupD, op_ixL, op_ixD, op_ixS, op_ixT, atI0, atI1, setS_in, readV_eq, readO_d, readO_l, get_eq, getO_some, ixO_some, putO_some, List.getElem?_cons_zero, List.getElem?_cons_succ, List.set_cons_zero, List.set_cons_succ, List.length_cons, List.length_nil, Nat.reduceAdd, Nat.reduceLT, ne_eq, not_false_eq_true, and_self, true_and, and_true, m1, op_mulL, op_lenS, h1, h2]
  obtain ⟨c, H⟩ := H
  obtain ⟨g, n, x, ht⟩ := box_tail T (some (.s, .list (ofInts ns))) k c
  refine ⟨g, n, run_rt (ρ := [some (.s, .list (ofInts ns)), some (.d, .int k), some (.d, .int c), x]) ⟨rfl, by decide, rfl⟩ ?_ rfl⟩
  have A : ∀ (as bs : List PS) (r r1 : Env), execSs T as r = .ok (.nx r1) → execSs T (as ++ bs) r = execSs T bs r1 := by
    intro as
    induction as with
    | nil => exact fun bs r r1 e => by cases e; rfl
    | cons s ss ih =>
      intro bs r r1 e
      rw [ex_cons] at e
      rw [List.cons_append, ex_cons]
      cases es : execS T s r with
      | ok o =>
        rw [es] at e
        cases o with
        | nx r' => exact ih bs r' r1 e
        | rt v r' => cases e
        | bk r' => cases e
        | ct r' => cases e
      | ex _ => rw [es] at e; cases e
      | no => rw [es] at e; cases e
  exact (A (p11_law_box.body.take 2) (p11_law_box.body.drop 2) _ _ H).trans ht
/-! ### within -/
def wIn (a b : List Int) : Bool := a.all fun x => decide (x ∈ b)
theorem within_run (T : Tbl) (a b : List Int) : runDef T p1_is_within [(.d, .tuple (ofInts a)), (.d, .tuple (ofInts b))] = .ok ((.d, .bool (wIn a b)), [(.d, .tuple (ofInts a)), (.d, .tuple (ofInts b))]) := by
  have L : ∀ (xs : List Int) (o : Option SV), ∃ r, execSs T [.ret (.bl true)] [] = .ok (.rt (.d, .bool true) []) ∧ forLoop (fun x r => (bindT (.var 2) x r).bnd fun r1 => execSs T [.ite (.op .notin [.var 2, .var 1]) [.ret (.bl false)] []] r1) (ofInts xs) [some (.d, .tuple (ofInts a)), some (.d, .tuple (ofInts b)), o] = .ok (if wIn xs b = true then .nx [some (.d, .tuple (ofInts a)), some (.d, .tuple (ofInts b)), r] else .rt (.d, .bool false) [some (.d, .tuple (ofInts a)), some (.d, .tuple (ofInts b)), r]) := by
    intro xs
    induction xs with
    | nil => exact fun o => ⟨o, rfl, rfl⟩
    | cons x xs ih =>
      intro o
      by_cases h : x ∈ b
      · obtain ⟨r, _, e⟩ := ih (some (.d, .int x))
        refine ⟨r, rfl, ?_⟩
        have hd := decide_eq_true h
        have st : (bindT (.var 2) (.int x) [some (.d, .tuple (ofInts a)), some (.d, .tuple (ofInts b)), o]).bnd (fun r1 => execSs T [.ite (.op .notin [.var 2, .var 1]) [.ret (.bl false)] []] r1) = .ok (.nx [some (.d, .tuple (ofInts a)), some (.d, .tuple (ofInts b)), some (.d, .int x)]) := by
          show execSs T [.ite (.op .notin [.var 2, .var 1]) [.ret (.bl false)] []] [some (.d, .tuple (ofInts a)), some (.d, .tuple (ofInts b)), some (.d, .int x)] = _
          simp -dsimp -implicitDefEqProofs only [ex_nil, ex_cons, then_nx, then_rt, then_ct, then_bk, ex_asg, ex_asgT, ex_par, ex_ret, ex_retMv, ex_ite, ex_brk, ex_cont, ev_var, ev_int, ev_bl, ev_non, ev_str, ev_dct, ev_tup, ev_lst, ev_op, ev_call, ev_and, ev_or, ev_not, ev_ifx, evs_nil, evs_cons, esv_nil, esv_cons, eas_nil, eas_var, eas_op, eas_int, eas_bl, eas_non, eas_str, eas_tup, eas_lst, eas_dct, eas_call, eas_and, eas_or, eas_not, eas_ifx, eas_comp, eas_slc, ex_put, putIn_l, ixN0, ixN1, fill_nil, fill_inl, fill_inr, asB_ok, bnd_ok, bnd_no, iff_t, iff_f, op_add, op_sub, op_neg, op_mul, op_fdiv, op_mod, op_gt, op_ge, op_lt, op_le, op_int, op_abs, op_min2, op_max2, op_lenL, op_lenS, op_lenD, op_lenT, op_tupL, op_tupD, op_ixL, op_ixD, op_ixS, op_ixT, atI0, atI1, setS_in, readV_eq, readO_d, readO_l, get_eq, getO_some, ixO_some, putO_some, List.getElem?_cons_zero, List.getElem?_cons_succ, List.set_cons_zero, List.set_cons_succ, List.length_cons, List.length_nil, Nat.reduceAdd, Nat.reduceLT, ne_eq, not_false_eq_true, and_self, true_and, and_true, op_ninInts, hd, Bool.not_true]
        have hw : wIn (x :: xs) b = wIn xs b := by
          unfold wIn
          rw [List.all_cons, hd, Bool.true_and]
        rw [hw, ← e]
        show R.bnd ((bindT (.var 2) (.int x) _).bnd _) _ = _
        rw [st]
        rfl
      · refine ⟨some (.d, .int x), rfl, ?_⟩
        have hd := decide_eq_false h
        have st : (bindT (.var 2) (.int x) [some (.d, .tuple (ofInts a)), some (.d, .tuple (ofInts b)), o]).bnd (fun r1 => execSs T [.ite (.op .notin [.var 2, .var 1]) [.ret (.bl false)] []] r1) = .ok (.rt (.d, .bool false) [some (.d, .tuple (ofInts a)), some (.d, .tuple (ofInts b)), some (.d, .int x)]) := by
          show execSs T [.ite (.op .notin [.var 2, .var 1]) [.ret (.bl false)] []] [some (.d, .tuple (ofInts a)), some (.d, .tuple (ofInts b)), some (.d, .int x)] = _
          simp -dsimp -implicitDefEqProofs only [ex_nil, ex_cons, then_nx, then_rt, then_ct, then_bk, ex_asg, ex_asgT, ex_par, ex_ret, ex_retMv, ex_ite, ex_brk, ex_cont, ev_var, ev_int, ev_bl, ev_non, ev_str, ev_dct, ev_tup, ev_lst, ev_op, ev_call, ev_and, ev_or, ev_not, ev_ifx, evs_nil, evs_cons, esv_nil, esv_cons, eas_nil, eas_var, eas_op, eas_int, eas_bl, eas_non, eas_str, eas_tup, eas_lst, eas_dct, eas_call, eas_and, eas_or, eas_not, eas_ifx, eas_comp, eas_slc, ex_put, putIn_l, ixN0, ixN1, fill_nil, fill_inl, fill_inr, asB_ok, bnd_ok, bnd_no, iff_t, iff_f, op_add, op_sub, op_neg, op_mul, op_fdiv, op_mod, op_gt, op_ge, op_lt, op_le, op_int, op_abs, op_min2, op_max2, op_lenL, op_lenS, op_lenD, op_lenT, op_tupL, op_tupD, op_ixL, op_ixD, op_ixS, op_ixT, atI0, atI1, setS_in, readV_eq, readO_d, readO_l, get_eq, getO_some, ixO_some, putO_some, List.getElem?_cons_zero, List.getElem?_cons_succ, List.set_cons_zero, List.set_cons_succ, List.length_cons, List.length_nil, Nat.reduceAdd, Nat.reduceLT, ne_eq, not_false_eq_true, and_self, true_and, and_true, op_ninInts, hd, Bool.not_false]
        have hw : wIn (x :: xs) b = false := by
          unfold wIn
          rw [List.all_cons, hd, Bool.false_and]
        rw [hw]
        show R.bnd ((bindT (.var 2) (.int x) _).bnd _) _ = _
        rw [st]
        rfl
  obtain ⟨r, _, e⟩ := L a none
  have F : execS T (.for_ (.var 2) (.e (.var 0)) [.ite (.op .notin [.var 2, .var 1]) [.ret (.bl false)] []]) [some (.d, .tuple (ofInts a)), some (.d, .tuple (ofInts b)), none] = _ := e
  cases h : wIn a b with
  | true =>
    rw [h, if_pos rfl] at F
    refine run_rt (ρ := [some (.d, .tuple (ofInts a)), some (.d, .tuple (ofInts b)), r]) ⟨rfl, by decide, rfl⟩ ?_ rfl
    show execSs T p1_is_within.body [some (.d, .tuple (ofInts a)), some (.d, .tuple (ofInts b)), none] = _
    unfold p1_is_within
    simp -dsimp -implicitDefEqProofs only [ex_nil, ex_cons, then_nx, then_rt, then_ct, then_bk, ex_asg, ex_asgT, ex_par, ex_ret, ex_retMv, ex_ite, ex_brk, ex_cont, ev_var, ev_int, ev_bl, ev_non, ev_str, ev_dct, ev_tup, ev_lst, ev_op, ev_call, ev_and, ev_or, ev_not, ev_ifx, evs_nil, evs_cons, esv_nil, esv_cons, eas_nil, eas_var, eas_op, eas_int, eas_bl, eas_non, eas_str, eas_tup, eas_lst, eas_dct, eas_call, eas_and, eas_or, eas_not, eas_ifx, eas_comp, eas_slc, ex_put, putIn_l, ixN0, ixN1, fill_nil, fill_inl, fill_inr, asB_ok, bnd_ok, bnd_no, iff_t, iff_f, op_add, op_sub, op_neg, op_mul, op_fdiv, op_mod, op_gt, op_ge, op_lt, op_le, op_int, op_abs, op_min2, op_max2, op_lenL, op_lenS, op_lenD, op_lenT, op_tupL, op_tupD, op_ixL, op_ixD, op_ixS, op_ixT, atI0, atI1, setS_in, readV_eq, readO_d, readO_l, get_eq, getO_some, ixO_some, putO_some, List.getElem?_cons_zero, List.getElem?_cons_succ, List.set_cons_zero, List.set_cons_succ, List.length_cons, List.length_nil, Nat.reduceAdd, Nat.reduceLT, ne_eq, not_false_eq_true, and_self, true_and, and_true, F]
  | false =>
    rw [h, if_neg (by decide)] at F
    refine run_rt (ρ := [some (.d, .tuple (ofInts a)), some (.d, .tuple (ofInts b)), r]) ⟨rfl, by decide, rfl⟩ ?_ rfl
    show execSs T p1_is_within.body [some (.d, .tuple (ofInts a)), some (.d, .tuple (ofInts b)), none] = _
    unfold p1_is_within
    simp -dsimp -implicitDefEqProofs only [ex_nil, ex_cons, then_nx, then_rt, then_ct, then_bk, ex_asg, ex_asgT, ex_par, ex_ret, ex_retMv, ex_ite, ex_brk, ex_cont, ev_var, ev_int, ev_bl, ev_non, ev_str, ev_dct, ev_tup, ev_lst, ev_op, ev_call, ev_and, ev_or, ev_not, ev_ifx, evs_nil, evs_cons, esv_nil, esv_cons, eas_nil, eas_var, eas_op, eas_int, eas_bl, eas_non, eas_str, eas_tup, eas_lst, eas_dct, eas_call, eas_and, eas_or, eas_not, eas_ifx, eas_comp, eas_slc, ex_put, putIn_l, ixN0, ixN1, fill_nil, fill_inl, fill_inr, asB_ok, bnd_ok, bnd_no, iff_t, iff_f, op_add, op_sub, op_neg, op_mul, op_fdiv, op_mod, op_gt, op_ge, op_lt, op_le, op_int, op_abs, op_min2, op_max2, op_lenL, op_lenS, op_lenD, op_lenT, op_tupL, op_tupD, op_ixL, op_ixD, op_ixS, op_ixT, atI0, atI1, setS_in, readV_eq, readO_d, readO_l, get_eq, getO_some, ixO_some, putO_some, List.getElem?_cons_zero, List.getElem?_cons_succ, List.set_cons_zero, List.set_cons_succ, List.length_cons, List.length_nil, Nat.reduceAdd, Nat.reduceLT, ne_eq, not_false_eq_true, and_self, true_and, and_true, F]
theorem inside_run (T : Tbl) (a b : List Int) : runDef T p16_law_inside [(.d, .tuple (ofInts a)), (.d, .tuple (ofInts b))] = .ok ((.d, .bool (wIn a b)), [(.d, .tuple (ofInts a)), (.d, .tuple (ofInts b))]) := within_run T a b
/-! ### calls without loops -/
/-- a condition: so many bells, the lots that please -/
def cond (b : Nat) (ts : List (List Int)) : D := .tuple [.int b, .tuple (ofTups ts)]
theorem pleases_run (T : Tbl) (b : Nat) (ts : List (List Int)) (t : List Int) : runDef T p2_pleases [(.d, cond b ts), (.d, .tuple (ofInts t))] = .ok ((.d, .bool (decide (t ∈ ts))), [(.d, cond b ts), (.d, .tuple (ofInts t))]) := by
  refine run_rt (ρ := [some (.d, cond b ts), some (.d, .tuple (ofInts t))]) ⟨rfl, by decide, rfl⟩ ?_ rfl
  show execSs T p2_pleases.body [some (.d, cond b ts), some (.d, .tuple (ofInts t))] = _
  unfold p2_pleases cond
  simp -dsimp -implicitDefEqProofs only [ex_nil, ex_cons, then_nx, then_rt, then_ct, then_bk, ex_asg, ex_asgT, ex_par, ex_ret, ex_retMv, ex_ite, ex_brk, ex_cont, ev_var, ev_int, ev_bl, ev_non, ev_str, ev_dct, ev_tup, ev_lst, ev_op, ev_call, ev_and, ev_or, ev_not, ev_ifx, evs_nil, evs_cons, esv_nil, esv_cons, eas_nil, eas_var, eas_op, eas_int, eas_bl, eas_non, eas_str, eas_tup, eas_lst, eas_dct, eas_call, eas_and, eas_or, eas_not, eas_ifx, eas_comp, eas_slc, ex_put, putIn_l, ixN0, ixN1, fill_nil, fill_inl, fill_inr, asB_ok, bnd_ok, bnd_no, iff_t, iff_f, op_add, op_sub, op_neg, op_mul, op_fdiv, op_mod, op_gt, op_ge, op_lt, op_le, op_int, op_abs, op_min2, op_max2, op_lenL, op_lenS, op_lenD, op_lenT, op_tupL, op_tupD, op_ixL, op_ixD, op_ixS, op_ixT, atI0, atI1, setS_in, readV_eq, readO_d, readO_l, get_eq, getO_some, ixO_some, putO_some, List.getElem?_cons_zero, List.getElem?_cons_succ, List.set_cons_zero, List.set_cons_succ, List.length_cons, List.length_nil, Nat.reduceAdd, Nat.reduceLT, ne_eq, not_false_eq_true, and_self, true_and, and_true, op_inTups]
def PleasesOk (T : Tbl) : Prop := ∀ (b : Nat) (ts : List (List Int)) (t : List Int), T.f 2 [(.d, cond b ts), (.d, .tuple (ofInts t))] = .ok ((.d, .bool (decide (t ∈ ts))), [(.d, cond b ts), (.d, .tuple (ofInts t))])
theorem wanted_run (T : Tbl) (hp : PleasesOk T) (b : Nat) (ts : List (List Int)) (h : Int) (t : List Int) : runDef T p6_is_wanted [(.d, cond b ts), (.d, .int h), (.d, .tuple (ofInts t))] = .ok ((.d, .bool (decide (t ∈ ts) == decide (h = 0))), [(.d, cond b ts), (.d, .int h), (.d, .tuple (ofInts t))]) := by
  refine run_rt (ρ := [some (.d, cond b ts), some (.d, .int h), some (.d, .tuple (ofInts t))]) ⟨rfl, by decide, rfl⟩ ?_ rfl
  have hp := hp b ts t
  show execSs T p6_is_wanted.body [some (.d, cond b ts), some (.d, .int h), some (.d, .tuple (ofInts t))] = _
  unfold p6_is_wanted
  simp -dsimp -implicitDefEqProofs only [ex_nil, ex_cons, then_nx, then_rt, then_ct, then_bk, ex_asg, ex_asgT, ex_par, ex_ret, ex_retMv, ex_ite, ex_brk, ex_cont, ev_var, ev_int, ev_bl, ev_non, ev_str, ev_dct, ev_tup, ev_lst, ev_op, ev_call, ev_and, ev_or, ev_not, ev_ifx, evs_nil, evs_cons, esv_nil, esv_cons, eas_nil, eas_var, eas_op, eas_int, eas_bl, eas_non, eas_str, eas_tup, eas_lst, eas_dct, eas_call, eas_and, eas_or, eas_not, eas_ifx, eas_comp, eas_slc, ex_put, putIn_l, ixN0, ixN1, fill_nil, fill_inl, fill_inr, asB_ok, bnd_ok, bnd_no, iff_t, iff_f, op_add, op_sub, op_neg, op_mul, op_fdiv, op_mod, op_gt, op_ge, op_lt, op_le, op_int, op_abs, op_min2, op_max2, op_lenL, op_lenS, op_lenD, op_lenT, op_tupL, op_tupD, op_ixL, op_ixD, op_ixS, op_ixT, atI0, atI1, setS_in, readV_eq, readO_d, readO_l, get_eq, getO_some, ixO_some, putO_some, List.getElem?_cons_zero, List.getElem?_cons_succ, List.set_cons_zero, List.set_cons_succ, List.length_cons, List.length_nil, Nat.reduceAdd, Nat.reduceLT, ne_eq, not_false_eq_true, and_self, true_and, and_true, op_eqI, op_eqB, own_d, own_n, nd_nil, pb_d, pb_n, noS_d, hp]
/-! ### the same -/
theorem op_isTupI {i : Int} : opV .isTuple [(.d, .int i)] = .ok (.d, .bool false) := (rfl)
theorem op_isTupT {ds : List D} : opV .isTuple [(.d, .tuple ds)] = .ok (.d, .bool true) := (rfl)
theorem op_isNoneI {i : Int} : opV .isNone [(.d, .int i)] = .ok (.d, .bool false) := (rfl)
theorem op_isBoolI {c : Bool} {i : Int} : opV (.isBool c) [(.d, .int i)] = .ok (.d, .bool false) := (rfl)
theorem op_isIntI {i : Int} : opV .isInt [(.d, .int i)] = .ok (.d, .bool true) := (rfl)
theorem op_isBoolTI {i : Int} : opV .isBoolT [(.d, .int i)] = .ok (.d, .bool false) := (rfl)
theorem sameI_run (T : Tbl) (a : Int) : runDef T p14_law_same [(.d, .int a), (.d, .int a)] = .ok ((.d, .bool true), [(.d, .int a), (.d, .int a)]) := by
  refine run_rt (ρ := [some (.d, .int a), some (.d, .int a), none, none]) ⟨rfl, by decide, rfl⟩ ?_ rfl
  skip
  show execSs T p14_law_same.body [some (.d, .int a), some (.d, .int a), none, none] = _
  unfold p14_law_same
  simp -dsimp -implicitDefEqProofs only [ex_nil, ex_cons, then_nx, then_rt, then_ct, then_bk, ex_asg, ex_asgT, ex_par, ex_ret, ex_retMv, ex_ite, ex_brk, ex_cont, ev_var, ev_int, ev_bl, ev_non, ev_str, ev_dct, ev_tup, ev_lst, ev_op, ev_call, ev_and, ev_or, ev_not, ev_ifx, evs_nil, evs_cons, esv_nil, esv_cons, eas_nil, eas_var, eas_op, eas_int, eas_bl, eas_non, eas_str, eas_tup, eas_lst, eas_dct, eas_call, eas_and, eas_or, eas_not, eas_ifx, eas_comp, eas_slc, ex_put, putIn_l, ixN0, ixN1, fill_nil, fill_inl, fill_inr, asB_ok, bnd_ok, bnd_no, iff_t, iff_f, op_add, op_sub, op_neg, op_mul, op_fdiv, op_mod, op_gt, op_ge, op_lt, op_le, op_int, op_abs, op_min2, op_max2, op_lenL, op_lenS, op_lenD, op_lenT, op_tupL, op_tupD, op_ixL, op_ixD, op_ixS, op_ixT, atI0, atI1, setS_in, readV_eq, readO_d, readO_l, get_eq, getO_some, ixO_some, putO_some, List.getElem?_cons_zero, List.getElem?_cons_succ, List.set_cons_zero, List.set_cons_succ, List.length_cons, List.length_nil, Nat.reduceAdd, Nat.reduceLT, ne_eq, not_false_eq_true, and_self, true_and, and_true, op_isTupI, op_isNoneI, op_isBoolI, op_isIntI, op_isBoolTI, op_eqI, decide_true, Bool.not_false]
def SameI (T : Tbl) : Prop := ∀ a : Int, T.f 14 [(.d, .int a), (.d, .int a)] = .ok ((.d, .bool true), [(.d, .int a), (.d, .int a)])
theorem zip2_self : ∀ (ds : List D), zip2 ds ds = ds.map fun d => .tuple [d, d]
  | [] => rfl
  | d :: ds => by
    show PyData.tuple [d, d] :: zip2 ds ds = _
    rw [zip2_self ds]
    rfl
theorem sameT_run (T : Tbl) (hs : SameI T) (a : List Int) : runDef T p14_law_same [(.d, .tuple (ofInts a)), (.d, .tuple (ofInts a))] = .ok ((.d, .bool true), [(.d, .tuple (ofInts a)), (.d, .tuple (ofInts a))]) := by
  have L : ∃ r', forLoop (fun x r => (bindT (.tup [.var 2, .var 3]) x r).bnd fun r1 => execSs T [.ite (.not (.call 14 [.var 2, .var 3])) [.ret (.bl false)] []] r1) ((ofInts a).map fun d => .tuple [d, d]) [some (.d, .tuple (ofInts a)), some (.d, .tuple (ofInts a)), none, none] = .ok (.nx r') ∧ ∃ x y, r' = [some (.d, .tuple (ofInts a)), some (.d, .tuple (ofInts a)), x, y] := by
    obtain ⟨r', e, h⟩ := for_inv (turn := fun x r => (bindT (.tup [.var 2, .var 3]) x r).bnd fun r1 => execSs T [.ite (.not (.call 14 [.var 2, .var 3])) [.ret (.bl false)] []] r1) (Inv := fun xs r => (∀ x ∈ xs, ∃ i : Int, x = .tuple [.int i, .int i]) ∧ ∃ x y, r = [some (.d, .tuple (ofInts a)), some (.d, .tuple (ofInts a)), x, y]) (fun x xs r h => by
      obtain ⟨h1, x', y', rfl⟩ := h
      obtain ⟨i, rfl⟩ := h1 x List.mem_cons_self
      refine ⟨[some (.d, .tuple (ofInts a)), some (.d, .tuple (ofInts a)), some (.d, .int i), some (.d, .int i)], ?_, fun y hy => h1 y (List.mem_cons_of_mem _ hy), _, _, rfl⟩
      have hs := hs i
      show execSs T [.ite (.not (.call 14 [.var 2, .var 3])) [.ret (.bl false)] []] [some (.d, .tuple (ofInts a)), some (.d, .tuple (ofInts a)), some (.d, .int i), some (.d, .int i)] = _
      simp -dsimp -implicitDefEqProofs only [ex_nil, ex_cons, then_nx, then_rt, then_ct, then_bk, ex_asg, ex_asgT, ex_par, ex_ret, ex_retMv, ex_ite, ex_brk, ex_cont, ev_var, ev_int, ev_bl, ev_non, ev_str, ev_dct, ev_tup, ev_lst, ev_op, ev_call, ev_and, ev_or, ev_not, ev_ifx, evs_nil, evs_cons, esv_nil, esv_cons, eas_nil, eas_var, eas_op, eas_int, eas_bl, eas_non, eas_str, eas_tup, eas_lst, eas_dct, eas_call, eas_and, eas_or, eas_not, eas_ifx, eas_comp, eas_slc, ex_put, putIn_l, ixN0, ixN1, fill_nil, fill_inl, fill_inr, asB_ok, bnd_ok, bnd_no, iff_t, iff_f, op_add, op_sub, op_neg, op_mul, op_fdiv, op_mod, op_gt, op_ge, op_lt, op_le, op_int, op_abs, op_min2, op_max2, op_lenL, op_lenS, op_lenD, op_lenT, op_tupL, op_tupD, op_ixL, op_ixD, op_ixS, op_ixT, atI0, atI1, setS_in, readV_eq, readO_d, readO_l, get_eq, getO_some, ixO_some, putO_some, List.getElem?_cons_zero, List.getElem?_cons_succ, List.set_cons_zero, List.set_cons_succ, List.length_cons, List.length_nil, Nat.reduceAdd, Nat.reduceLT, ne_eq, not_false_eq_true, and_self, true_and, and_true, own_d, own_n, nd_nil, pb_d, pb_n, noS_d, hs, Bool.not_true]) ((ofInts a).map fun d => .tuple [d, d]) [some (.d, .tuple (ofInts a)), some (.d, .tuple (ofInts a)), none, none] ⟨fun x hx => by
        obtain ⟨d, hd, rfl⟩ := List.mem_map.mp hx
        obtain ⟨i, _, rfl⟩ := List.mem_map.mp hd
        exact ⟨i, rfl⟩, _, _, rfl⟩
    exact ⟨r', e, h.2⟩
  obtain ⟨r', e, x, y, rfl⟩ := L
  have F : execS T (.for_ (.tup [.var 2, .var 3]) (.zip2 (.var 0) (.var 1)) [.ite (.not (.call 14 [.var 2, .var 3])) [.ret (.bl false)] []]) [some (.d, .tuple (ofInts a)), some (.d, .tuple (ofInts a)), none, none] = .ok (.nx [some (.d, .tuple (ofInts a)), some (.d, .tuple (ofInts a)), x, y]) := by
    rw [← e, ← zip2_self]
    rfl
  refine run_rt (ρ := [some (.d, .tuple (ofInts a)), some (.d, .tuple (ofInts a)), x, y]) ⟨rfl, by decide, rfl⟩ ?_ rfl
  show execSs T p14_law_same.body [some (.d, .tuple (ofInts a)), some (.d, .tuple (ofInts a)), none, none] = _
  unfold p14_law_same
  simp -dsimp -implicitDefEqProofs only [ex_nil, ex_cons, then_nx, then_rt, then_ct, then_bk, ex_asg, ex_asgT, ex_par, ex_ret, ex_retMv, ex_ite, ex_brk, ex_cont, ev_var, ev_int, ev_bl, ev_non, ev_str, ev_dct, ev_tup, ev_lst, ev_op, ev_call, ev_and, ev_or, ev_not, ev_ifx, evs_nil, evs_cons, esv_nil, esv_cons, eas_nil, eas_var, eas_op, eas_int, eas_bl, eas_non, eas_str, eas_tup, eas_lst, eas_dct, eas_call, eas_and, eas_or, eas_not, eas_ifx, eas_comp, eas_slc, ex_put, putIn_l, ixN0, ixN1, fill_nil, fill_inl, fill_inr, asB_ok, bnd_ok, bnd_no, iff_t, iff_f, op_add, op_sub, op_neg, op_mul, op_fdiv, op_mod, op_gt, op_ge, op_lt, op_le, op_int, op_abs, op_min2, op_max2, op_lenL, op_lenS, op_lenD, op_lenT, op_tupL, op_tupD, op_ixL, op_ixD, op_ixS, op_ixT, atI0, atI1, setS_in, readV_eq, readO_d, readO_l, get_eq, getO_some, ixO_some, putO_some, List.getElem?_cons_zero, List.getElem?_cons_succ, List.set_cons_zero, List.set_cons_succ, List.length_cons, List.length_nil, Nat.reduceAdd, Nat.reduceLT, ne_eq, not_false_eq_true, and_self, true_and, and_true, op_isTupT, op_lenT, op_neI, decide_true, Bool.not_true, F]
def LotsOk (T : Tbl) : Prop := ∀ b : Nat, 1 ≤ b → b ≤ 5 → T.f 51 [(.d, .int b)] = .ok ((.l .d, .list (ofTups (LL b))), [(.d, .int b)])
theorem other_run (T : Tbl) (hl : LotsOk T) (b : Nat) (h1 : 1 ≤ b) (h5 : b ≤ 5) (ts : List (List Int)) : runDef T p54_law_other [(.d, cond b ts)] = .ok ((.d, cond b ((LL b).filter fun t => !decide (t ∈ ts))), [(.d, cond b ts)]) := by
  have hl := hl b h1 h5
  have C : evalE T (.comp (.var 1) [1] (.var 1) (.e (.call 51 [.op .ix [.var 0, .int 0]])) (.op .notin [.var 1, .op .ix [.var 0, .int 1]])) [some (.d, cond b ts), none] = .ok ((.l .d, .list (ofTups ((LL b).filter fun t => !decide (t ∈ ts)))), [some (.d, cond b ts), none]) := by
    refine comp_tups ?_ rfl rfl (Nat.lt_succ_self 1) fun t _ => ?_
    · unfold cond
      rw [ei_e]
      simp -dsimp -implicitDefEqProofs only [ex_nil, ex_cons, then_nx, then_rt, then_ct, then_bk, ex_asg, ex_asgT, ex_par, ex_ret, ex_retMv, ex_ite, ex_brk, ex_cont, ev_var, ev_int, ev_bl, ev_non, ev_str, ev_dct, ev_tup, ev_lst, ev_op, ev_call, ev_and, ev_or, ev_not, ev_ifx, evs_nil, evs_cons, esv_nil, esv_cons, eas_nil, eas_var, eas_op, eas_int, eas_bl, eas_non, eas_str, eas_tup, eas_lst, eas_dct, eas_call, eas_and, eas_or, eas_not, eas_ifx, eas_comp, eas_slc, ex_put, putIn_l, ixN0, ixN1, fill_nil, fill_inl, fill_inr, asB_ok, bnd_ok, bnd_no, iff_t, iff_f, op_add, op_sub, op_neg, op_mul, op_fdiv, op_mod, op_gt, op_ge, op_lt, op_le, op_int, op_abs, op_min2, op_max2, op_lenL, op_lenS, op_lenD, op_lenT, op_tupL, op_tupD, op_ixL, op_ixD, op_ixS, op_ixT, atI0, atI1, setS_in, readV_eq, readO_d, readO_l, get_eq, getO_some, ixO_some, putO_some, List.getElem?_cons_zero, List.getElem?_cons_succ, List.set_cons_zero, List.set_cons_succ, List.length_cons, List.length_nil, Nat.reduceAdd, Nat.reduceLT, ne_eq, not_false_eq_true, and_self, true_and, and_true, own_r, own_n, nd_nil, pb_r, pb_n, noS_l, hl]
      rfl
    · show evalE T _ [some (.d, cond b ts), some (.d, .tuple (ofInts t))] = R.ok ((Kd.d, PyData.bool (!decide (t ∈ ts))), [some (.d, cond b ts), some (.d, .tuple (ofInts t))])
      unfold cond
      simp -dsimp -implicitDefEqProofs only [ex_nil, ex_cons, then_nx, then_rt, then_ct, then_bk, ex_asg, ex_asgT, ex_par, ex_ret, ex_retMv, ex_ite, ex_brk, ex_cont, ev_var, ev_int, ev_bl, ev_non, ev_str, ev_dct, ev_tup, ev_lst, ev_op, ev_call, ev_and, ev_or, ev_not, ev_ifx, evs_nil, evs_cons, esv_nil, esv_cons, eas_nil, eas_var, eas_op, eas_int, eas_bl, eas_non, eas_str, eas_tup, eas_lst, eas_dct, eas_call, eas_and, eas_or, eas_not, eas_ifx, eas_comp, eas_slc, ex_put, putIn_l, ixN0, ixN1, fill_nil, fill_inl, fill_inr, asB_ok, bnd_ok, bnd_no, iff_t, iff_f, op_add, op_sub, op_neg, op_mul, op_fdiv, op_mod, op_gt, op_ge, op_lt, op_le, op_int, op_abs, op_min2, op_max2, op_lenL, op_lenS, op_lenD, op_lenT, op_tupL, op_tupD, op_ixL, op_ixD, op_ixS, op_ixT, atI0, atI1, setS_in, readV_eq, readO_d, readO_l, get_eq, getO_some, ixO_some, putO_some, List.getElem?_cons_zero, List.getElem?_cons_succ, List.set_cons_zero, List.set_cons_succ, List.length_cons, List.length_nil, Nat.reduceAdd, Nat.reduceLT, ne_eq, not_false_eq_true, and_self, true_and, and_true, op_ninTups]
  refine run_rt (ρ := [some (.d, cond b ts), none]) ⟨rfl, by decide, rfl⟩ ?_ rfl
  show execSs T p54_law_other.body [some (.d, cond b ts), none] = _
  unfold p54_law_other
  unfold cond at *
  simp -dsimp -implicitDefEqProofs only [ex_nil, ex_cons, then_nx, then_rt, then_ct, then_bk, ex_asg, ex_asgT, ex_par, ex_ret, ex_retMv, ex_ite, ex_brk, ex_cont, ev_var, ev_int, ev_bl, ev_non, ev_str, ev_dct, ev_tup, ev_lst, ev_op, ev_call, ev_and, ev_or, ev_not, ev_ifx, evs_nil, evs_cons, esv_nil, esv_cons, eas_nil, eas_var, eas_op, eas_int, eas_bl, eas_non, eas_str, eas_tup, eas_lst, eas_dct, eas_call, eas_and, eas_or, eas_not, eas_ifx, eas_comp, eas_slc, ex_put, putIn_l, ixN0, ixN1, fill_nil, fill_inl, fill_inr, asB_ok, bnd_ok, bnd_no, iff_t, iff_f, op_add, op_sub, op_neg, op_mul, op_fdiv, op_mod, op_gt, op_ge, op_lt, op_le, op_int, op_abs, op_min2, op_max2, op_lenL, op_lenS, op_lenD, op_lenT, op_tupL, op_tupD, op_ixL, op_ixD, op_ixS, op_ixT, atI0, atI1, setS_in, readV_eq, readO_d, readO_l, get_eq, getO_some, ixO_some, putO_some, List.getElem?_cons_zero, List.getElem?_cons_succ, List.set_cons_zero, List.set_cons_succ, List.length_cons, List.length_nil, Nat.reduceAdd, Nat.reduceLT, ne_eq, not_false_eq_true, and_self, true_and, and_true, C, op_tupD]
end K02
end PL
end

section
set_option Elab.async false
set_option linter.all false
set_option maxRecDepth 100000
set_option autoImplicit false
/-! PL02b: lots within a lot, by cases. -/
namespace PL
open PySem
namespace K02
def lw (T : Tbl) (t : List Int) : R (SV × List SV) := runDef T p46_lots_within [(.d, .tuple (ofInts t))]
def lwR (b : Nat) (t : List Int) : R (SV × List SV) := .ok ((.d, .tuple (ofTups ((LL b).filter fun o => wIn o t))), [(.d, .tuple (ofInts t))])
theorem lw1 (T : Tbl) : (LL 1).map (lw T) = (LL 1).map (lwR 1) := by kernel_rfl
theorem lw2 (T : Tbl) : (LL 2).map (lw T) = (LL 2).map (lwR 2) := by kernel_rfl
theorem lw3 (T : Tbl) : (LL 3).map (lw T) = (LL 3).map (lwR 3) := by kernel_rfl
theorem lw4 (T : Tbl) : (LL 4).map (lw T) = (LL 4).map (lwR 4) := by kernel_rfl
theorem lw5 (T : Tbl) : (LL 5).map (lw T) = (LL 5).map (lwR 5) := by kernel_rfl
theorem map_at {α β : Type} {f g : α → β} : ∀ {xs : List α}, xs.map f = xs.map g → ∀ x ∈ xs, f x = g x
  | y :: ys, h, x, hx => by
    rw [List.map_cons, List.map_cons] at h
    injection h with h1 h2
    rcases List.mem_cons.mp hx with rfl | hx
    · exact h1
    · exact map_at h2 x hx
theorem lw_run (T : Tbl) (b : Nat) (h1 : 1 ≤ b) (h5 : b ≤ 5) (t : List Int) (ht : t ∈ LL b) : lw T t = lwR b t := by
  have : b = 1 ∨ b = 2 ∨ b = 3 ∨ b = 4 ∨ b = 5 := by omega
  rcases this with rfl | rfl | rfl | rfl | rfl
  · exact map_at (lw1 T) t ht
  · exact map_at (lw2 T) t ht
  · exact map_at (lw3 T) t ht
  · exact map_at (lw4 T) t ht
  · exact map_at (lw5 T) t ht
end K02
end PL
end

section
set_option Elab.async false
set_option linter.all false
set_option maxRecDepth 100000
set_option autoImplicit false
/-! PL02c: children. -/
namespace PL
open PySem
namespace K02
def WithinOk (T : Tbl) : Prop := ∀ a b : List Int, T.f 1 [(.d, .tuple (ofInts a)), (.d, .tuple (ofInts b))] = .ok ((.d, .bool (wIn a b)), [(.d, .tuple (ofInts a)), (.d, .tuple (ofInts b))])
def InsideOk (T : Tbl) : Prop := ∀ a b : List Int, T.f 16 [(.d, .tuple (ofInts a)), (.d, .tuple (ofInts b))] = .ok ((.d, .bool (wIn a b)), [(.d, .tuple (ofInts a)), (.d, .tuple (ofInts b))])
def LwOk (T : Tbl) : Prop := ∀ (b : Nat) (t : List Int), 1 ≤ b → b ≤ 5 → t ∈ LL b → T.f 46 [(.d, .tuple (ofInts t))] = lwR b t
/-- the lots that are of another sort, inside -/
def someOf (b : Nat) (ts : List (List Int)) (t : List Int) : List (List Int) := ((LL b).filter fun o => wIn o t).filter fun o => !(decide (o ∈ ts) == decide (t ∈ ts))
/-- the greatest of them -/
def kids (b : Nat) (ts : List (List Int)) (t : List Int) : List (List Int) := (someOf b ts t).filter fun o => !(someOf b ts t).any fun q => !decide (o = q) && wIn o q
theorem some_run (T : Tbl) (hp : PleasesOk T) (hl : LwOk T) (b : Nat) (h1 : 1 ≤ b) (h5 : b ≤ 5) (ts : List (List Int)) (t : List Int) (ht : t ∈ LL b) :
    evalE T (.comp (.var 4) [4] (.var 4) (.e (.call 46 [.var 1])) (.op .ne [.call 2 [.var 0, .var 4], .var 2])) [some (.d, cond b ts), some (.d, .tuple (ofInts t)), some (.d, .bool (decide (t ∈ ts))), none, none, none] = .ok ((.l .d, .list (ofTups (someOf b ts t))), [some (.d, cond b ts), some (.d, .tuple (ofInts t)), some (.d, .bool (decide (t ∈ ts))), none, none, none]) := by
  have hl := hl b t h1 h5 ht
  unfold lwR at hl
  refine comp_tups ?_ rfl rfl (by show 4 < 6; decide) fun o _ => ?_
  · rw [ei_e]
    simp -dsimp -implicitDefEqProofs only [ex_nil, ex_cons, then_nx, then_rt, then_ct, then_bk, ex_asg, ex_asgT, ex_par, ex_ret, ex_retMv, ex_ite, ex_brk, ex_cont, ev_var, ev_int, ev_bl, ev_non, ev_str, ev_dct, ev_tup, ev_lst, ev_op, ev_call, ev_and, ev_or, ev_not, ev_ifx, evs_nil, evs_cons, esv_nil, esv_cons, eas_nil, eas_var, eas_op, eas_int, eas_bl, eas_non, eas_str, eas_tup, eas_lst, eas_dct, eas_call, eas_and, eas_or, eas_not, eas_ifx, eas_comp, eas_slc, ex_put, putIn_l, ixN0, ixN1, fill_nil, fill_inl, fill_inr, asB_ok, bnd_ok, bnd_no, iff_t, iff_f, op_add, op_sub, op_neg, op_mul, op_fdiv, op_mod, op_gt, op_ge, op_lt, op_le, op_int, op_abs, op_min2, op_max2, op_lenL, op_lenS, op_lenD, op_lenT, op_tupL, op_tupD, op_ixL, op_ixD, op_ixS, op_ixT, atI0, atI1, setS_in, readV_eq, readO_d, readO_l, get_eq, getO_some, ixO_some, putO_some, List.getElem?_cons_zero, List.getElem?_cons_succ, List.set_cons_zero, List.set_cons_succ, List.length_cons, List.length_nil, Nat.reduceAdd, Nat.reduceLT, ne_eq, not_false_eq_true, and_self, true_and, and_true, own_d, own_n, nd_nil, pb_d, pb_n, noS_d, hl]
    rfl
  · have hp := hp b ts o
    show evalE T _ [some (.d, cond b ts), some (.d, .tuple (ofInts t)), some (.d, .bool (decide (t ∈ ts))), none, some (.d, .tuple (ofInts o)), none] = R.ok (_, [some (.d, cond b ts), some (.d, .tuple (ofInts t)), some (.d, .bool (decide (t ∈ ts))), none, some (.d, .tuple (ofInts o)), none])
    simp -dsimp -implicitDefEqProofs only [ex_nil, ex_cons, then_nx, then_rt, then_ct, then_bk, ex_asg, ex_asgT, ex_par, ex_ret, ex_retMv, ex_ite, ex_brk, ex_cont, ev_var, ev_int, ev_bl, ev_non, ev_str, ev_dct, ev_tup, ev_lst, ev_op, ev_call, ev_and, ev_or, ev_not, ev_ifx, evs_nil, evs_cons, esv_nil, esv_cons, eas_nil, eas_var, eas_op, eas_int, eas_bl, eas_non, eas_str, eas_tup, eas_lst, eas_dct, eas_call, eas_and, eas_or, eas_not, eas_ifx, eas_comp, eas_slc, ex_put, putIn_l, ixN0, ixN1, fill_nil, fill_inl, fill_inr, asB_ok, bnd_ok, bnd_no, iff_t, iff_f, op_add, op_sub, op_neg, op_mul, op_fdiv, op_mod, op_gt, op_ge, op_lt, op_le, op_int, op_abs, op_min2, op_max2, op_lenL, op_lenS, op_lenD, op_lenT, op_tupL, op_tupD, op_ixL, op_ixD, op_ixS, op_ixT, atI0, atI1, setS_in, readV_eq, readO_d, readO_l, get_eq, getO_some, ixO_some, putO_some, List.getElem?_cons_zero, List.getElem?_cons_succ, List.set_cons_zero, List.set_cons_succ, List.length_cons, List.length_nil, Nat.reduceAdd, Nat.reduceLT, ne_eq, not_false_eq_true, and_self, true_and, and_true, own_d, own_n, nd_nil, pb_d, pb_n, noS_d, hp, op_neB]
def isKid (S : List (List Int)) (o : List Int) : Bool := !S.any fun q => !decide (o = q) && wIn o q
theorem lessers_run (T : Tbl) (hw : WithinOk T) (c s : Option SV) (t : D) (S : List (List Int)) (o : List Int) (x : Option SV) : evalE T (.comp (.and (.op .ne [.var 4, .var 5]) (.call 1 [.var 4, .var 5])) [5] (.var 5) (.e (.var 3)) (.bl true)) [c, s, x, some (.d, .list (ofTups S)), some (.d, .tuple (ofInts o)), none] = .ok ((.l .d, .list ((ofTups S).map fun q => .bool (onTup (fun q => !decide (o = q) && wIn o q) q))), [c, s, x, some (.d, .list (ofTups S)), some (.d, .tuple (ofInts o)), none]) := by
  refine (comp_pure (p := fun _ => true) (items := ofTups S) (g := fun q => .bool (onTup (fun q => !decide (o = q) && wIn o q) q)) rfl rfl rfl (by show 5 < 6; decide) (fun _ _ => rfl) fun q hq _ => ⟨.d, ?_⟩).trans (by rw [List.filter_eq_self.mpr fun _ _ => rfl])
  obtain ⟨q, _, rfl⟩ := List.mem_map.mp hq
  rw [onTup_ok]
  have hw := hw o q
  show evalE T _ [c, s, x, some (.d, .list (ofTups S)), some (.d, .tuple (ofInts o)), some (.d, .tuple (ofInts q))] = R.ok (_, [c, s, x, some (.d, .list (ofTups S)), some (.d, .tuple (ofInts o)), some (.d, .tuple (ofInts q))])
  cases h : decide (o = q) with
  | true => simp -dsimp -implicitDefEqProofs only [ex_nil, ex_cons, then_nx, then_rt, then_ct, then_bk, ex_asg, ex_asgT, ex_par, ex_ret, ex_retMv, ex_ite, ex_brk, ex_cont, ev_var, ev_int, ev_bl, ev_non, ev_str, ev_dct, ev_tup, ev_lst, ev_op, ev_call, ev_and, ev_or, ev_not, ev_ifx, evs_nil, evs_cons, esv_nil, esv_cons, eas_nil, eas_var, eas_op, eas_int, eas_bl, eas_non, eas_str, eas_tup, eas_lst, eas_dct, eas_call, eas_and, eas_or, eas_not, eas_ifx, eas_comp, eas_slc, ex_put, putIn_l, ixN0, ixN1, fill_nil, fill_inl, fill_inr, asB_ok, bnd_ok, bnd_no, iff_t, iff_f, op_add, op_sub, op_neg, op_mul, op_fdiv, op_mod, op_gt, op_ge, op_lt, op_le, op_int, op_abs, op_min2, op_max2, op_lenL, op_lenS, op_lenD, op_lenT, op_tupL, op_tupD, op_ixL, op_ixD, op_ixS, op_ixT, atI0, atI1, setS_in, readV_eq, readO_d, readO_l, get_eq, getO_some, ixO_some, putO_some, List.getElem?_cons_zero, List.getElem?_cons_succ, List.set_cons_zero, List.set_cons_succ, List.length_cons, List.length_nil, Nat.reduceAdd, Nat.reduceLT, ne_eq, not_false_eq_true, and_self, true_and, and_true, op_neT, h, Bool.not_true, Bool.false_and]
  | false => simp -dsimp -implicitDefEqProofs only [ex_nil, ex_cons, then_nx, then_rt, then_ct, then_bk, ex_asg, ex_asgT, ex_par, ex_ret, ex_retMv, ex_ite, ex_brk, ex_cont, ev_var, ev_int, ev_bl, ev_non, ev_str, ev_dct, ev_tup, ev_lst, ev_op, ev_call, ev_and, ev_or, ev_not, ev_ifx, evs_nil, evs_cons, esv_nil, esv_cons, eas_nil, eas_var, eas_op, eas_int, eas_bl, eas_non, eas_str, eas_tup, eas_lst, eas_dct, eas_call, eas_and, eas_or, eas_not, eas_ifx, eas_comp, eas_slc, ex_put, putIn_l, ixN0, ixN1, fill_nil, fill_inl, fill_inr, asB_ok, bnd_ok, bnd_no, iff_t, iff_f, op_add, op_sub, op_neg, op_mul, op_fdiv, op_mod, op_gt, op_ge, op_lt, op_le, op_int, op_abs, op_min2, op_max2, op_lenL, op_lenS, op_lenD, op_lenT, op_tupL, op_tupD, op_ixL, op_ixD, op_ixS, op_ixT, atI0, atI1, setS_in, readV_eq, readO_d, readO_l, get_eq, getO_some, ixO_some, putO_some, List.getElem?_cons_zero, List.getElem?_cons_succ, List.set_cons_zero, List.set_cons_succ, List.length_cons, List.length_nil, Nat.reduceAdd, Nat.reduceLT, ne_eq, not_false_eq_true, and_self, true_and, and_true, op_neT, h, own_d, own_n, nd_nil, pb_d, pb_n, noS_d, hw, Bool.not_false, Bool.true_and]
end K02
end PL
end

section
set_option Elab.async false
set_option linter.all false
set_option maxRecDepth 100000
set_option autoImplicit false
/-! PW4: more of what the interpreter tells: any, sums, lists that grow, comprehensions over numbers. -/
namespace PL
open PySem
variable {T : Tbl} {ρ : Env}
theorem boolsOf_map {α : Type} {f : α → Bool} : ∀ {xs : List α}, boolsOf (xs.map fun x => .bool (f x)) = some (xs.map f)
  | [] => rfl
  | x :: xs => by
    show (boolsOf (xs.map _)).map (f x :: ·) = _
    rw [boolsOf_map]
    rfl
theorem op_anyB {α : Type} {f : α → Bool} {xs : List α} : opV .any [(.d, .list (xs.map fun x => .bool (f x)))] = .ok (.d, .bool (xs.any f)) := by
  show (match boolsOf (xs.map fun x => PyData.bool (f x)) with
    | some bs => tellB (bs.any id)
    | _ => .no) = _
  rw [boolsOf_map]
  show R.ok (Kd.d, PyData.bool ((xs.map f).any id)) = _
  rw [List.any_map]
  rfl
theorem sh_ones {α : Type} {xs : List α} : SeqAt.shaped (.list (xs.map fun _ => .int 1)) = true := by
  refine (Sh.lst (n := 0) fun x hx => ?_).ok (by decide)
  obtain ⟨_, _, rfl⟩ := List.mem_map.mp hx
  exact .int
theorem eqv_ones {α : Type} : ∀ {xs : List α}, PyData.eqv (.list (xs.map fun _ => .int 1)) (.list []) = xs.isEmpty
  | [] => rfl
  | _ :: _ => rfl
theorem isEmpty_filter {α : Type} {p : α → Bool} {xs : List α} : (xs.filter p).isEmpty = !xs.any p := by
  induction xs with
  | nil => rfl
  | cons x xs ih =>
    cases h : p x with
    | true => rw [List.filter_cons_of_pos h, List.any_cons, h]; rfl
    | false => rw [List.filter_cons_of_neg (by rw [h]; decide), List.any_cons, h, ih]; rfl
theorem op_eqOnes {α : Type} {p : α → Bool} {xs : List α} : opV .eq [(.d, .list ((xs.filter p).map fun _ => .int 1)), (.d, .list [])] = .ok (.d, .bool (!xs.any p)) := by
  rw [op_eq sh_ones rfl, eqv_ones, isEmpty_filter]
theorem op_neOnes {α : Type} {p : α → Bool} {xs : List α} : opV .ne [(.d, .list ((xs.filter p).map fun _ => .int 1)), (.d, .list [])] = .ok (.d, .bool (xs.any p)) := by
  rw [op_ne sh_ones rfl, eqv_ones, isEmpty_filter, Bool.not_not]
theorem op_sumI {ns : List Int} : opV .sum [(.d, .list (ofInts ns))] = .ok (.d, .int ns.sum) := by
  show (match intsOf (ofInts ns) with
    | some ns => dat (.int ns.sum)
    | _ => .no) = _
  rw [intsOf_ofInts]
  rfl
theorem op_maxLI {n : Int} {ns : List Int} : opV .maxL [(.d, .list (ofInts (n :: ns)))] = .ok (.d, .int (maxI ns n)) := by
  show (match intsOf (ofInts (n :: ns)) with
    | some (x :: r) => dat (.int (maxI r x))
    | _ => .no) = _
  rw [intsOf_ofInts]
  rfl
theorem op_minLI {n : Int} {ns : List Int} : opV .minL [(.d, .list (ofInts (n :: ns)))] = .ok (.d, .int (minI ns n)) := by
  show (match intsOf (ofInts (n :: ns)) with
    | some (x :: r) => dat (.int (minI r x))
    | _ => .no) = _
  rw [intsOf_ofInts]
  rfl
/-! ### lists that grow -/
def appIn (ρ : Env) (j : Nat) (v : SV) : SV → R Out
  | (k, x) => match k, x with
     | .l .d, .list xs => if xs.length < sizeCap then .ok (.nx (ρ.set j (some (.l .d, .list (xs ++ [v.2]))))) else .no
     | _, _ => .no
def extIn (ρ : Env) (j : Nat) (v : SV) : SV → R Out
  | (k, x) => match k, x with
     | .l .d, .list xs => match v.2 with
       | .list ys => if xs.length + ys.length ≤ sizeCap then .ok (.nx (ρ.set j (some (.l .d, .list (xs ++ ys))))) else .no
       | _ => .no
     | _, _ => .no
theorem ex_app {j : Nat} {e : PE} : execS T (.app j e) ρ = (get ρ j).bL fun s => iff_ (isLstT s.2) ((evalE T e ρ).bL fun p => (get p.2 j).bL fun s => appIn p.2 j p.1 s) .no := (rfl)
theorem ex_ext {j : Nat} {e : PE} : execS T (.ext j e) ρ = (get ρ j).bL fun s => iff_ (isLstT s.2) ((evalE T e ρ).bL fun p => (get p.2 j).bL fun s => extIn p.2 j p.1 s) .no := (rfl)
theorem isLst_l {xs : List D} : isLstT (.list xs) = true := (rfl)
theorem appIn_l {j : Nat} {v : SV} {xs : List D} (h : xs.length < sizeCap) : appIn ρ j v (.l .d, .list xs) = .ok (.nx (ρ.set j (some (.l .d, .list (xs ++ [v.2]))))) := if_pos h
theorem extIn_l {j : Nat} {k : Kd} {xs ys : List D} (h : xs.length + ys.length ≤ sizeCap) : extIn ρ j (k, .list ys) (.l .d, .list xs) = .ok (.nx (ρ.set j (some (.l .d, .list (xs ++ ys))))) := if_pos h
def augIn (ρ : Env) (i : Nat) (b : D) : SV → R Out
  | (k, x) => match k, x, b with
    | .d, .int a, .int b => .ok (.nx (ρ.set i (some (.d, .int (a + b)))))
    | _, _, _ => .no
theorem ex_augI {i : Nat} {b : Int} {a : Int} (h : get ρ i = .ok (.d, .int a)) : execS T (.aug i .add (.int b)) ρ = .ok (.nx (ρ.set i (some (.d, .int (a + b))))) := by
  show R.bnd (get ρ i) (fun _ => R.bnd (.ok ((Kd.d, PyData.int b), ρ)) _) = _
  rw [h]
  show R.bnd (get ρ i) _ = _
  rw [h]
  rfl
theorem op_addLL {a b : List D} (h : a.length + b.length ≤ sizeCap) : opV .add [(.l .d, .list a), (.d, .list b)] = .ok (.l .d, .list (a ++ b)) := by
  show (if a.length + b.length ≤ sizeCap then mk (.list (a ++ b)) else .no) = _
  rw [if_pos h]
  rfl
theorem op_rangeT1 {n : Int} (h : (small n && decide (n.toNat ≤ sizeCap)) = true) : opV (.rangeL true 1) [(.d, .int n)] = .ok (.d, .tuple (rangeUp 0 n)) := by
  show (if (small n && decide (n.toNat ≤ sizeCap)) = true then mk _ else .no) = _
  rw [if_pos h]
  rfl
theorem op_rangeT2 {a b : Int} (h : (small a && small b && decide ((b - a).toNat ≤ sizeCap)) = true) : opV (.rangeL true 2) [(.d, .int a), (.d, .int b)] = .ok (.d, .tuple (rangeUp a b)) := by
  show (if (small a && small b && decide ((b - a).toNat ≤ sizeCap)) = true then mk _ else .no) = _
  rw [if_pos h]
  rfl
/-! ### comprehensions -/
def onInt {α : Type} (d : α) (p : Int → α) : D → α
  | .int i => p i
  | _ => d
theorem filt_ints {p : Int → Bool} {g : Int → Int} {cs : List Int} : ((ofInts cs).filter (onInt false p)).map (fun x => .int (onInt 0 g x)) = ofInts ((cs.filter p).map g) := by
  induction cs with
  | nil => rfl
  | cons c cs ih =>
    have e1 : ofInts (c :: cs) = PyData.int c :: ofInts cs := rfl
    have e2 : onInt false p (PyData.int c) = p c := rfl
    cases h : p c with
    | true =>
      rw [e1, List.filter_cons_of_pos (by rw [e2]; exact h), List.filter_cons_of_pos h, List.map_cons, ih]
      rfl
    | false => rw [e1, List.filter_cons_of_neg (by rw [e2, h]; decide), List.filter_cons_of_neg (by rw [h]; decide), ih]
/-- numbers made of numbers -/
theorem comp_ints {elt cond : PE} {v : Nat} {it : PIt} {cs : List Int} {ρ1 : Env} {p : Int → Bool} {g : Int → Int} (hi : evalI T it ρ = .ok (ofInts cs, ρ1)) (hf : fits it (ofInts cs) = true) (hw : wipeOk ρ1 [v] = true) (hv : v < ρ1.length)
    (hc : ∀ c ∈ cs, evalE T cond (ρ1.set v (some (.d, .int c))) = .ok ((.d, .bool (p c)), ρ1.set v (some (.d, .int c))))
    (he : ∀ c ∈ cs, p c = true → ∃ k, evalE T elt (ρ1.set v (some (.d, .int c))) = .ok ((k, .int (g c)), ρ1.set v (some (.d, .int c)))) :
    evalE T (.comp elt [v] (.var v) it cond) ρ = .ok ((.l .d, .list (ofInts ((cs.filter p).map g))), ρ1) := by
  refine (comp_pure (p := onInt false p) (g := fun x => .int (onInt 0 g x)) hi hf hw hv (fun x hx => ?_) fun x hx h => ?_).trans (by rw [filt_ints])
  · obtain ⟨c, hm, rfl⟩ := List.mem_map.mp hx
    exact hc c hm
  · obtain ⟨c, hm, rfl⟩ := List.mem_map.mp hx
    exact he c hm h
/-- some of the tuples, whichever -/
theorem comp_tupsE {cond : PE} {v : Nat} {it : PIt} {ts : List (List Int)} {ρ1 : Env} (hi : evalI T it ρ = .ok (ofTups ts, ρ1)) (hf : fits it (ofTups ts) = true) (hw : wipeOk ρ1 [v] = true) (hv : v < ρ1.length)
    (hc : ∀ t ∈ ts, ∃ c, evalE T cond (ρ1.set v (some (.d, .tuple (ofInts t)))) = .ok ((.d, .bool c), ρ1.set v (some (.d, .tuple (ofInts t))))) :
    ∃ us, evalE T (.comp (.var v) [v] (.var v) it cond) ρ = .ok ((.l .d, .list (ofTups us)), ρ1) := by
  classical
  exact ⟨_, comp_tups (p := fun t => if h : t ∈ ts then Classical.choose (hc t h) else false) hi hf hw hv fun t ht => by
    rw [dif_pos ht]
    exact Classical.choose_spec (hc t ht)⟩
/-- ones for some of the items, whichever: is there one -/
theorem comp_onesE {cond : PE} {v : Nat} {it : PIt} {items : List D} {ρ1 : Env} (hi : evalI T it ρ = .ok (items, ρ1)) (hf : fits it items = true) (hw : wipeOk ρ1 [v] = true) (hv : v < ρ1.length)
    (hc : ∀ t ∈ items, ∃ c, evalE T cond (ρ1.set v (some (.d, t))) = .ok ((.d, .bool c), ρ1.set v (some (.d, t)))) :
    ∃ p : D → Bool, evalE T (.comp (.int 1) [v] (.var v) it cond) ρ = .ok ((.l .d, .list ((items.filter p).map fun _ => .int 1)), ρ1) := by
  classical
  exact ⟨_, comp_pure (p := fun t => if h : ∃ c, evalE T cond (ρ1.set v (some (.d, t))) = .ok ((.d, .bool c), ρ1.set v (some (.d, t))) then Classical.choose h else false) (g := fun _ => .int 1) hi hf hw hv (fun t ht => by
    show _ = R.ok ((Kd.d, PyData.bool (if h : ∃ c, evalE T cond (ρ1.set v (some (.d, t))) = .ok ((.d, .bool c), ρ1.set v (some (.d, t))) then Classical.choose h else false)), _)
    rw [dif_pos (hc t ht)]
    exact Classical.choose_spec (hc t ht)) fun t _ _ => ⟨.d, rfl⟩⟩
end PL
end

section
set_option Elab.async false
set_option linter.all false
set_option maxRecDepth 100000
set_option autoImplicit false
/-! PL02d: the two ways to find children. -/
namespace PL
open PySem
namespace K02
theorem any_tups {f : List Int → Bool} {S : List (List Int)} : (ofTups S).any (onTup f) = S.any f := by
  unfold ofTups
  rw [List.any_map]
  congr 1
  funext t
  exact onTup_ok
theorem kids_run (T : Tbl) (hw : WithinOk T) (c s : Option SV) (S : List (List Int)) (x : Option SV) :
    evalE T (.comp (.var 4) [4] (.var 4) (.e (.var 3)) (.not (.op .any [.comp (.and (.op .ne [.var 4, .var 5]) (.call 1 [.var 4, .var 5])) [5] (.var 5) (.e (.var 3)) (.bl true)]))) [c, s, x, some (.l .d, .list (ofTups S)), none, none] = .ok ((.l .d, .list (ofTups (S.filter (isKid S)))), [c, s, x, some (.d, .list (ofTups S)), none, none]) := by
  refine comp_tups (ρ1 := [c, s, x, some (.d, .list (ofTups S)), none, none]) ?_ rfl rfl (by show 4 < 6; decide) fun o _ => ?_
  · rw [ei_e]
    simp -dsimp -implicitDefEqProofs only [ex_nil, ex_cons, then_nx, then_rt, then_ct, then_bk, ex_asg, ex_asgT, ex_par, ex_ret, ex_retMv, ex_ite, ex_brk, ex_cont, ev_var, ev_int, ev_bl, ev_non, ev_str, ev_dct, ev_tup, ev_lst, ev_op, ev_call, ev_and, ev_or, ev_not, ev_ifx, evs_nil, evs_cons, esv_nil, esv_cons, eas_nil, eas_var, eas_op, eas_int, eas_bl, eas_non, eas_str, eas_tup, eas_lst, eas_dct, eas_call, eas_and, eas_or, eas_not, eas_ifx, eas_comp, eas_slc, ex_put, putIn_l, ixN0, ixN1, fill_nil, fill_inl, fill_inr, asB_ok, bnd_ok, bnd_no, iff_t, iff_f, op_add, op_sub, op_neg, op_mul, op_fdiv, op_mod, op_gt, op_ge, op_lt, op_le, op_int, op_abs, op_min2, op_max2, op_lenL, op_lenS, op_lenD, op_lenT, op_tupL, op_tupD, op_ixL, op_ixD, op_ixS, op_ixT, atI0, atI1, setS_in, readV_eq, readO_d, readO_l, get_eq, getO_some, ixO_some, putO_some, List.getElem?_cons_zero, List.getElem?_cons_succ, List.set_cons_zero, List.set_cons_succ, List.length_cons, List.length_nil, Nat.reduceAdd, Nat.reduceLT, ne_eq, not_false_eq_true, and_self, true_and, and_true]
    rfl
  · have H := lessers_run T hw c s (.none) S o x
    show evalE T _ [c, s, x, some (.d, .list (ofTups S)), some (.d, .tuple (ofInts o)), none] = R.ok (_, [c, s, x, some (.d, .list (ofTups S)), some (.d, .tuple (ofInts o)), none])
    simp -dsimp -implicitDefEqProofs only [ex_nil, ex_cons, then_nx, then_rt, then_ct, then_bk, ex_asg, ex_asgT, ex_par, ex_ret, ex_retMv, ex_ite, ex_brk, ex_cont, ev_var, ev_int, ev_bl, ev_non, ev_str, ev_dct, ev_tup, ev_lst, ev_op, ev_call, ev_and, ev_or, ev_not, ev_ifx, evs_nil, evs_cons, esv_nil, esv_cons, eas_nil, eas_var, eas_op, eas_int, eas_bl, eas_non, eas_str, eas_tup, eas_lst, eas_dct, eas_call, eas_and, eas_or, eas_not, eas_ifx, eas_comp, eas_slc, ex_put, putIn_l, ixN0, ixN1, fill_nil, fill_inl, fill_inr, asB_ok, bnd_ok, bnd_no, iff_t, iff_f, op_add, op_sub, op_neg, op_mul, op_fdiv, op_mod, op_gt, op_ge, op_lt, op_le, op_int, op_abs, op_min2, op_max2, op_lenL, op_lenS, op_lenD, op_lenT, op_tupL, op_tupD, op_ixL, op_ixD, op_ixS, op_ixT, atI0, atI1, setS_in, readV_eq, readO_d, readO_l, get_eq, getO_some, ixO_some, putO_some, List.getElem?_cons_zero, List.getElem?_cons_succ, List.set_cons_zero, List.set_cons_succ, List.length_cons, List.length_nil, Nat.reduceAdd, Nat.reduceLT, ne_eq, not_false_eq_true, and_self, true_and, and_true, H, op_anyB, any_tups]
    rfl
theorem go_run (T : Tbl) (hp : PleasesOk T) (hl : LwOk T) (hw : WithinOk T) (b : Nat) (h1 : 1 ≤ b) (h5 : b ≤ 5) (ts : List (List Int)) (t : List Int) (ht : t ∈ LL b) :
    runDef T p47_greatest_other [(.d, cond b ts), (.d, .tuple (ofInts t))] = .ok ((.d, .tuple (ofTups (kids b ts t))), [(.d, cond b ts), (.d, .tuple (ofInts t))]) := by
  have A := some_run T hp hl b h1 h5 ts t ht
  have B := kids_run T hw (some (.d, cond b ts)) (some (.d, .tuple (ofInts t))) (someOf b ts t) (some (.d, .bool (decide (t ∈ ts))))
  have P := hp b ts t
  refine run_rt ⟨rfl, by decide, rfl⟩ (ρ := [some (.d, cond b ts), some (.d, .tuple (ofInts t)), some (.d, .bool (decide (t ∈ ts))), some (.d, .list (ofTups (someOf b ts t))), none, none]) ?_ rfl
  show execSs T p47_greatest_other.body [some (.d, cond b ts), some (.d, .tuple (ofInts t)), none, none, none, none] = _
  unfold p47_greatest_other
  simp -dsimp -implicitDefEqProofs only [ex_nil, ex_cons, then_nx, then_rt, then_ct, then_bk, ex_asg, ex_asgT, ex_par, ex_ret, ex_retMv, ex_ite, ex_brk, ex_cont, ev_var, ev_int, ev_bl, ev_non, ev_str, ev_dct, ev_tup, ev_lst, ev_op, ev_call, ev_and, ev_or, ev_not, ev_ifx, evs_nil, evs_cons, esv_nil, esv_cons, eas_nil, eas_var, eas_op, eas_int, eas_bl, eas_non, eas_str, eas_tup, eas_lst, eas_dct, eas_call, eas_and, eas_or, eas_not, eas_ifx, eas_comp, eas_slc, ex_put, putIn_l, ixN0, ixN1, fill_nil, fill_inl, fill_inr, asB_ok, bnd_ok, bnd_no, iff_t, iff_f, op_add, op_sub, op_neg, op_mul, op_fdiv, op_mod, op_gt, op_ge, op_lt, op_le, op_int, op_abs, op_min2, op_max2, op_lenL, op_lenS, op_lenD, op_lenT, op_tupL, op_tupD, op_ixL, op_ixD, op_ixS, op_ixT, atI0, atI1, setS_in, readV_eq, readO_d, readO_l, get_eq, getO_some, ixO_some, putO_some, List.getElem?_cons_zero, List.getElem?_cons_succ, List.set_cons_zero, List.set_cons_succ, List.length_cons, List.length_nil, Nat.reduceAdd, Nat.reduceLT, ne_eq, not_false_eq_true, and_self, true_and, and_true, own_d, own_n, nd_nil, pb_d, pb_n, noS_d, P, A, B, op_tupD]
  rfl
/-! ### the law's own -/
def isKid2 (S : List (List Int)) (o : List Int) : Bool := !S.any fun q => decide (o.length < q.length) && wIn o q
theorem lens1 : ((LL 1).all fun o => (LL 1).all fun q => (!decide (o = q) && wIn o q) == (decide (o.length < q.length) && wIn o q)) = true := by kernel_rfl
theorem lens2 : ((LL 2).all fun o => (LL 2).all fun q => (!decide (o = q) && wIn o q) == (decide (o.length < q.length) && wIn o q)) = true := by kernel_rfl
theorem lens3 : ((LL 3).all fun o => (LL 3).all fun q => (!decide (o = q) && wIn o q) == (decide (o.length < q.length) && wIn o q)) = true := by kernel_rfl
theorem lens4 : ((LL 4).all fun o => (LL 4).all fun q => (!decide (o = q) && wIn o q) == (decide (o.length < q.length) && wIn o q)) = true := by kernel_rfl
theorem lens5 : ((LL 5).all fun o => (LL 5).all fun q => (!decide (o = q) && wIn o q) == (decide (o.length < q.length) && wIn o q)) = true := by kernel_rfl
theorem lens (b : Nat) (h1 : 1 ≤ b) (h5 : b ≤ 5) (o q : List Int) (ho : o ∈ LL b) (hq : q ∈ LL b) : (!decide (o = q) && wIn o q) = (decide (o.length < q.length) && wIn o q) := by
  have A : ((LL b).all fun o => (LL b).all fun q => (!decide (o = q) && wIn o q) == (decide (o.length < q.length) && wIn o q)) = true := by
    have : b = 1 ∨ b = 2 ∨ b = 3 ∨ b = 4 ∨ b = 5 := by omega
    rcases this with rfl | rfl | rfl | rfl | rfl
    · exact lens1
    · exact lens2
    · exact lens3
    · exact lens4
    · exact lens5
  exact beq_iff_eq.mp (List.all_eq_true.mp (List.all_eq_true.mp A o ho) q hq)
theorem any_congr' {α : Type} {f g : α → Bool} : ∀ {xs : List α}, (∀ x ∈ xs, f x = g x) → xs.any f = xs.any g
  | [], _ => rfl
  | x :: xs, h => by
    rw [List.any_cons, List.any_cons, h x List.mem_cons_self, any_congr' fun y hy => h y (List.mem_cons_of_mem _ hy)]
theorem kid_eq (b : Nat) (h1 : 1 ≤ b) (h5 : b ≤ 5) (S : List (List Int)) (hS : ∀ o ∈ S, o ∈ LL b) (o : List Int) (ho : o ∈ S) : isKid2 S o = isKid S o := by
  unfold isKid2 isKid
  rw [any_congr' fun q hq => (lens b h1 h5 o q (hS o ho) (hS q hq)).symm]
theorem some_in {b : Nat} {ts : List (List Int)} {t o : List Int} (h : o ∈ someOf b ts t) : o ∈ LL b := (List.mem_filter.mp (List.mem_filter.mp h).1).1
theorem kids_in {b : Nat} {ts : List (List Int)} {t o : List Int} (h : o ∈ kids b ts t) : o ∈ LL b := some_in (List.mem_filter.mp h).1
theorem len1 : (LL 1).length ≤ 31 := of_decide_eq_true (by kernel_rfl)
theorem len2 : (LL 2).length ≤ 31 := of_decide_eq_true (by kernel_rfl)
theorem len3 : (LL 3).length ≤ 31 := of_decide_eq_true (by kernel_rfl)
theorem len4 : (LL 4).length ≤ 31 := of_decide_eq_true (by kernel_rfl)
theorem len5 : (LL 5).length ≤ 31 := of_decide_eq_true (by kernel_rfl)
theorem LL_len (b : Nat) (h1 : 1 ≤ b) (h5 : b ≤ 5) : (LL b).length ≤ 31 := by
  have : b = 1 ∨ b = 2 ∨ b = 3 ∨ b = 4 ∨ b = 5 := by omega
  rcases this with rfl | rfl | rfl | rfl | rfl
  · exact len1
  · exact len2
  · exact len3
  · exact len4
  · exact len5
theorem some_len (b : Nat) (h1 : 1 ≤ b) (h5 : b ≤ 5) (ts : List (List Int)) (t : List Int) : (someOf b ts t).length ≤ 31 := Nat.le_trans (Nat.le_trans (List.length_filter_le ..) (List.length_filter_le ..)) (LL_len b h1 h5)
theorem kids_len (b : Nat) (h1 : 1 ≤ b) (h5 : b ≤ 5) (ts : List (List Int)) (t : List Int) : (kids b ts t).length ≤ 31 := Nat.le_trans (List.length_filter_le ..) (some_len b h1 h5 ts t)
theorem ones_run (T : Tbl) (hw : InsideOk T) (c s x y : Option SV) (S : List (List Int)) (o : List Int) : evalE T (.comp (.int 1) [6] (.var 6) (.e (.var 3)) (.and (.op .gt [.op .len [.var 6], .op .len [.var 4]]) (.call 16 [.var 4, .var 6]))) [c, s, x, some (.d, .list (ofTups S)), some (.d, .tuple (ofInts o)), y, none] = .ok ((.l .d, .list (((ofTups S).filter (onTup fun q => decide (o.length < q.length) && wIn o q)).map fun _ => .int 1)), [c, s, x, some (.d, .list (ofTups S)), some (.d, .tuple (ofInts o)), y, none]) := by
  refine comp_pure (p := onTup fun q => decide (o.length < q.length) && wIn o q) (g := fun _ => .int 1) (items := ofTups S) rfl rfl rfl (by show 6 < 7; decide) (fun q hq => ?_) fun q _ _ => ⟨.d, rfl⟩
  obtain ⟨q, _, rfl⟩ := List.mem_map.mp hq
  rw [onTup_ok]
  have hw := hw o q
  show evalE T _ [c, s, x, some (.d, .list (ofTups S)), some (.d, .tuple (ofInts o)), y, some (.d, .tuple (ofInts q))] = R.ok (_, [c, s, x, some (.d, .list (ofTups S)), some (.d, .tuple (ofInts o)), y, some (.d, .tuple (ofInts q))])
  have e : decide (((ofInts o).length : Int) < ((ofInts q).length : Int)) = decide (o.length < q.length) := by
    rw [ofInts_len, ofInts_len, decide_eq_decide]
    omega
  cases h : decide (o.length < q.length) with
  | true =>
    rw [h] at e
    simp -dsimp -implicitDefEqProofs only [ex_nil, ex_cons, then_nx, then_rt, then_ct, then_bk, ex_asg, ex_asgT, ex_par, ex_ret, ex_retMv, ex_ite, ex_brk, ex_cont, ev_var, ev_int, ev_bl, ev_non, ev_str, ev_dct, ev_tup, ev_lst, ev_op, ev_call, ev_and, ev_or, ev_not, ev_ifx, evs_nil, evs_cons, esv_nil, esv_cons, eas_nil, eas_var, eas_op, eas_int, eas_bl, eas_non, eas_str, eas_tup, eas_lst, eas_dct, eas_call, eas_and, eas_or, eas_not, eas_ifx, eas_comp, eas_slc, ex_put, putIn_l, ixN0, ixN1, fill_nil, fill_inl, fill_inr, asB_ok, bnd_ok, bnd_no, iff_t, iff_f, op_add, op_sub, op_neg, op_mul, op_fdiv, op_mod, op_gt, op_ge, op_lt, op_le, op_int, op_abs, op_min2, op_max2, op_lenL, op_lenS, op_lenD, op_lenT, op_tupL, op_tupD, op_ixL, op_ixD, op_ixS, op_ixT, atI0, atI1, setS_in, readV_eq, readO_d, readO_l, get_eq, getO_some, ixO_some, putO_some, List.getElem?_cons_zero, List.getElem?_cons_succ, List.set_cons_zero, List.set_cons_succ, List.length_cons, List.length_nil, Nat.reduceAdd, Nat.reduceLT, ne_eq, not_false_eq_true, and_self, true_and, and_true, e, own_d, own_n, nd_nil, pb_d, pb_n, noS_d, hw, Bool.true_and]
  | false =>
    rw [h] at e
    simp -dsimp -implicitDefEqProofs only [ex_nil, ex_cons, then_nx, then_rt, then_ct, then_bk, ex_asg, ex_asgT, ex_par, ex_ret, ex_retMv, ex_ite, ex_brk, ex_cont, ev_var, ev_int, ev_bl, ev_non, ev_str, ev_dct, ev_tup, ev_lst, ev_op, ev_call, ev_and, ev_or, ev_not, ev_ifx, evs_nil, evs_cons, esv_nil, esv_cons, eas_nil, eas_var, eas_op, eas_int, eas_bl, eas_non, eas_str, eas_tup, eas_lst, eas_dct, eas_call, eas_and, eas_or, eas_not, eas_ifx, eas_comp, eas_slc, ex_put, putIn_l, ixN0, ixN1, fill_nil, fill_inl, fill_inr, asB_ok, bnd_ok, bnd_no, iff_t, iff_f, op_add, op_sub, op_neg, op_mul, op_fdiv, op_mod, op_gt, op_ge, op_lt, op_le, op_int, op_abs, op_min2, op_max2, op_lenL, op_lenS, op_lenD, op_lenT, op_tupL, op_tupD, op_ixL, op_ixD, op_ixS, op_ixT, atI0, atI1, setS_in, readV_eq, readO_d, readO_l, get_eq, getO_some, ixO_some, putO_some, List.getElem?_cons_zero, List.getElem?_cons_succ, List.set_cons_zero, List.set_cons_succ, List.length_cons, List.length_nil, Nat.reduceAdd, Nat.reduceLT, ne_eq, not_false_eq_true, and_self, true_and, and_true, e, Bool.false_and]
theorem ofTups_len {ts : List (List Int)} : (ofTups ts).length = ts.length := List.length_map ..
theorem ofTups_app {a b : List (List Int)} : ofTups (a ++ b) = ofTups a ++ ofTups b := List.map_append
theorem chl_loop (T : Tbl) (hw : InsideOk T) (c s x : Option SV) (S : List (List Int)) : ∀ (rest acc : List (List Int)) (y : Option SV), acc.length + rest.length ≤ 31 →
    ∃ z, forLoop (fun x r => (bindT (.var 4) x r).bnd fun r1 => execSs T [.ite (.op .eq [.comp (.int 1) [6] (.var 6) (.e (.var 3)) (.and (.op .gt [.op .len [.var 6], .op .len [.var 4]]) (.call 16 [.var 4, .var 6])), .lst []]) [.app 5 (.var 4)] []] r1) (ofTups rest) [c, s, x, some (.d, .list (ofTups S)), y, some (.l .d, .list (ofTups acc)), none] = .ok (.nx [c, s, x, some (.d, .list (ofTups S)), z, some (.l .d, .list (ofTups (acc ++ rest.filter (isKid2 S)))), none])
  | [], acc, y, _ => ⟨y, by rw [List.filter_nil, List.append_nil]; rfl⟩
  | o :: rest, acc, y, h => by
    have O := ones_run T hw c s x (some (.l .d, .list (ofTups acc))) S o
    have st : ∀ acc', acc' = acc ++ [o].filter (isKid2 S) → (bindT (.var 4) (.tuple (ofInts o)) [c, s, x, some (.d, .list (ofTups S)), y, some (.l .d, .list (ofTups acc)), none]).bnd (fun r1 => execSs T [.ite (.op .eq [.comp (.int 1) [6] (.var 6) (.e (.var 3)) (.and (.op .gt [.op .len [.var 6], .op .len [.var 4]]) (.call 16 [.var 4, .var 6])), .lst []]) [.app 5 (.var 4)] []] r1) = .ok (.nx [c, s, x, some (.d, .list (ofTups S)), some (.d, .tuple (ofInts o)), some (.l .d, .list (ofTups acc')), none]) := by
      rintro acc' rfl
      show execSs T _ [c, s, x, some (.d, .list (ofTups S)), some (.d, .tuple (ofInts o)), some (.l .d, .list (ofTups acc)), none] = _
      rw [ofTups_app]
      cases hk : isKid2 S o with
      | true =>
        rw [List.filter_cons_of_pos hk, List.filter_nil]
        have hk : (!(ofTups S).any (onTup fun q => decide (o.length < q.length) && wIn o q)) = true := by rw [any_tups]; exact hk
        have hl : (ofTups acc).length < sizeCap := by
          rw [ofTups_len]
          rw [List.length_cons] at h
          show acc.length < 16777216
          omega
        simp -dsimp -implicitDefEqProofs only [ex_nil, ex_cons, then_nx, then_rt, then_ct, then_bk, ex_asg, ex_asgT, ex_par, ex_ret, ex_retMv, ex_ite, ex_brk, ex_cont, ev_var, ev_int, ev_bl, ev_non, ev_str, ev_dct, ev_tup, ev_lst, ev_op, ev_call, ev_and, ev_or, ev_not, ev_ifx, evs_nil, evs_cons, esv_nil, esv_cons, eas_nil, eas_var, eas_op, eas_int, eas_bl, eas_non, eas_str, eas_tup, eas_lst, eas_dct, eas_call, eas_and, eas_or, eas_not, eas_ifx, eas_comp, eas_slc, ex_put, putIn_l, ixN0, ixN1, fill_nil, fill_inl, fill_inr, asB_ok, bnd_ok, bnd_no, iff_t, iff_f, op_add, op_sub, op_neg, op_mul, op_fdiv, op_mod, op_gt, op_ge, op_lt, op_le, op_int, op_abs, op_min2, op_max2, op_lenL, op_lenS, op_lenD, op_lenT, op_tupL, op_tupD, op_ixL, op_ixD, op_ixS, op_ixT, atI0, atI1, setS_in, readV_eq, readO_d, readO_l, get_eq, getO_some, ixO_some, putO_some, List.getElem?_cons_zero, List.getElem?_cons_succ, List.set_cons_zero, List.set_cons_succ, List.length_cons, List.length_nil, Nat.reduceAdd, Nat.reduceLT, ne_eq, not_false_eq_true, and_self, true_and, and_true, O, op_eqOnes, hk, ex_app, isLst_l, appIn_l hl]
        rfl
      | false =>
        rw [List.filter_cons_of_neg (by rw [hk]; decide), List.filter_nil]
        have hk : (!(ofTups S).any (onTup fun q => decide (o.length < q.length) && wIn o q)) = false := by rw [any_tups]; exact hk
        simp -dsimp -implicitDefEqProofs only [ex_nil, ex_cons, then_nx, then_rt, then_ct, then_bk, ex_asg, ex_asgT, ex_par, ex_ret, ex_retMv, ex_ite, ex_brk, ex_cont, ev_var, ev_int, ev_bl, ev_non, ev_str, ev_dct, ev_tup, ev_lst, ev_op, ev_call, ev_and, ev_or, ev_not, ev_ifx, evs_nil, evs_cons, esv_nil, esv_cons, eas_nil, eas_var, eas_op, eas_int, eas_bl, eas_non, eas_str, eas_tup, eas_lst, eas_dct, eas_call, eas_and, eas_or, eas_not, eas_ifx, eas_comp, eas_slc, ex_put, putIn_l, ixN0, ixN1, fill_nil, fill_inl, fill_inr, asB_ok, bnd_ok, bnd_no, iff_t, iff_f, op_add, op_sub, op_neg, op_mul, op_fdiv, op_mod, op_gt, op_ge, op_lt, op_le, op_int, op_abs, op_min2, op_max2, op_lenL, op_lenS, op_lenD, op_lenT, op_tupL, op_tupD, op_ixL, op_ixD, op_ixS, op_ixT, atI0, atI1, setS_in, readV_eq, readO_d, readO_l, get_eq, getO_some, ixO_some, putO_some, List.getElem?_cons_zero, List.getElem?_cons_succ, List.set_cons_zero, List.set_cons_succ, List.length_cons, List.length_nil, Nat.reduceAdd, Nat.reduceLT, ne_eq, not_false_eq_true, and_self, true_and, and_true, O, op_eqOnes, hk]
        show _ = R.ok (Out.nx [c, s, x, some (.d, .list (ofTups S)), some (.d, .tuple (ofInts o)), some (.l .d, .list (ofTups acc ++ [])), none])
        rw [List.append_nil]
    have hl2 : (acc ++ [o].filter (isKid2 S)).length + rest.length ≤ 31 := by
      have := List.length_filter_le (isKid2 S) [o]
      rw [List.length_append]
      rw [List.length_cons] at h
      rw [List.length_cons, List.length_nil] at this
      omega
    obtain ⟨z, e⟩ := chl_loop T hw c s x S rest (acc ++ [o].filter (isKid2 S)) (some (.d, .tuple (ofInts o))) hl2
    refine ⟨z, ?_⟩
    show R.bnd ((bindT (.var 4) (.tuple (ofInts o)) _).bnd _) _ = _
    rw [st _ rfl]
    refine e.trans ?_
    rw [List.append_assoc, ← List.filter_append]
    rfl
theorem lsome_run (T : Tbl) (hl : LotsOk T) (hw : InsideOk T) (b : Nat) (h1 : 1 ≤ b) (h5 : b ≤ 5) (ts : List (List Int)) (t : List Int) :
    evalE T (.comp (.var 4) [4] (.var 4) (.e (.call 51 [.op .ix [.var 0, .int 0]])) (.and (.op .ne [.op .isin [.var 4, .op .ix [.var 0, .int 1]], .var 2]) (.call 16 [.var 4, .var 1]))) [some (.d, cond b ts), some (.d, .tuple (ofInts t)), some (.d, .bool (decide (t ∈ ts))), none, none, none, none] = .ok ((.l .d, .list (ofTups (someOf b ts t))), [some (.d, cond b ts), some (.d, .tuple (ofInts t)), some (.d, .bool (decide (t ∈ ts))), none, none, none, none]) := by
  have hl := hl b h1 h5
  have e : someOf b ts t = (LL b).filter fun o => !(decide (o ∈ ts) == decide (t ∈ ts)) && wIn o t := List.filter_filter
  rw [e]
  refine comp_tups ?_ rfl rfl (by show 4 < 7; decide) fun o _ => ?_
  · unfold cond
    rw [ei_e]
    simp -dsimp -implicitDefEqProofs only [ex_nil, ex_cons, then_nx, then_rt, then_ct, then_bk, ex_asg, ex_asgT, ex_par, ex_ret, ex_retMv, ex_ite, ex_brk, ex_cont, ev_var, ev_int, ev_bl, ev_non, ev_str, ev_dct, ev_tup, ev_lst, ev_op, ev_call, ev_and, ev_or, ev_not, ev_ifx, evs_nil, evs_cons, esv_nil, esv_cons, eas_nil, eas_var, eas_op, eas_int, eas_bl, eas_non, eas_str, eas_tup, eas_lst, eas_dct, eas_call, eas_and, eas_or, eas_not, eas_ifx, eas_comp, eas_slc, ex_put, putIn_l, ixN0, ixN1, fill_nil, fill_inl, fill_inr, asB_ok, bnd_ok, bnd_no, iff_t, iff_f, op_add, op_sub, op_neg, op_mul, op_fdiv, op_mod, op_gt, op_ge, op_lt, op_le, op_int, op_abs, op_min2, op_max2, op_lenL, op_lenS, op_lenD, op_lenT, op_tupL, op_tupD, op_ixL, op_ixD, op_ixS, op_ixT, atI0, atI1, setS_in, readV_eq, readO_d, readO_l, get_eq, getO_some, ixO_some, putO_some, List.getElem?_cons_zero, List.getElem?_cons_succ, List.set_cons_zero, List.set_cons_succ, List.length_cons, List.length_nil, Nat.reduceAdd, Nat.reduceLT, ne_eq, not_false_eq_true, and_self, true_and, and_true, own_r, own_n, nd_nil, pb_r, pb_n, noS_l, hl]
    rfl
  · have hw := hw o t
    show evalE T _ [some (.d, cond b ts), some (.d, .tuple (ofInts t)), some (.d, .bool (decide (t ∈ ts))), none, some (.d, .tuple (ofInts o)), none, none] = R.ok (_, [some (.d, cond b ts), some (.d, .tuple (ofInts t)), some (.d, .bool (decide (t ∈ ts))), none, some (.d, .tuple (ofInts o)), none, none])
    unfold cond
    cases h : !(decide (o ∈ ts) == decide (t ∈ ts)) with
    | true => simp -dsimp -implicitDefEqProofs only [ex_nil, ex_cons, then_nx, then_rt, then_ct, then_bk, ex_asg, ex_asgT, ex_par, ex_ret, ex_retMv, ex_ite, ex_brk, ex_cont, ev_var, ev_int, ev_bl, ev_non, ev_str, ev_dct, ev_tup, ev_lst, ev_op, ev_call, ev_and, ev_or, ev_not, ev_ifx, evs_nil, evs_cons, esv_nil, esv_cons, eas_nil, eas_var, eas_op, eas_int, eas_bl, eas_non, eas_str, eas_tup, eas_lst, eas_dct, eas_call, eas_and, eas_or, eas_not, eas_ifx, eas_comp, eas_slc, ex_put, putIn_l, ixN0, ixN1, fill_nil, fill_inl, fill_inr, asB_ok, bnd_ok, bnd_no, iff_t, iff_f, op_add, op_sub, op_neg, op_mul, op_fdiv, op_mod, op_gt, op_ge, op_lt, op_le, op_int, op_abs, op_min2, op_max2, op_lenL, op_lenS, op_lenD, op_lenT, op_tupL, op_tupD, op_ixL, op_ixD, op_ixS, op_ixT, atI0, atI1, setS_in, readV_eq, readO_d, readO_l, get_eq, getO_some, ixO_some, putO_some, List.getElem?_cons_zero, List.getElem?_cons_succ, List.set_cons_zero, List.set_cons_succ, List.length_cons, List.length_nil, Nat.reduceAdd, Nat.reduceLT, ne_eq, not_false_eq_true, and_self, true_and, and_true, op_inTups, op_neB, h, own_d, own_n, nd_nil, pb_d, pb_n, noS_d, hw, Bool.true_and]
    | false => simp -dsimp -implicitDefEqProofs only [ex_nil, ex_cons, then_nx, then_rt, then_ct, then_bk, ex_asg, ex_asgT, ex_par, ex_ret, ex_retMv, ex_ite, ex_brk, ex_cont, ev_var, ev_int, ev_bl, ev_non, ev_str, ev_dct, ev_tup, ev_lst, ev_op, ev_call, ev_and, ev_or, ev_not, ev_ifx, evs_nil, evs_cons, esv_nil, esv_cons, eas_nil, eas_var, eas_op, eas_int, eas_bl, eas_non, eas_str, eas_tup, eas_lst, eas_dct, eas_call, eas_and, eas_or, eas_not, eas_ifx, eas_comp, eas_slc, ex_put, putIn_l, ixN0, ixN1, fill_nil, fill_inl, fill_inr, asB_ok, bnd_ok, bnd_no, iff_t, iff_f, op_add, op_sub, op_neg, op_mul, op_fdiv, op_mod, op_gt, op_ge, op_lt, op_le, op_int, op_abs, op_min2, op_max2, op_lenL, op_lenS, op_lenD, op_lenT, op_tupL, op_tupD, op_ixL, op_ixD, op_ixS, op_ixT, atI0, atI1, setS_in, readV_eq, readO_d, readO_l, get_eq, getO_some, ixO_some, putO_some, List.getElem?_cons_zero, List.getElem?_cons_succ, List.set_cons_zero, List.set_cons_succ, List.length_cons, List.length_nil, Nat.reduceAdd, Nat.reduceLT, ne_eq, not_false_eq_true, and_self, true_and, and_true, op_inTups, op_neB, h, Bool.false_and]
theorem lch_run (T : Tbl) (hl : LotsOk T) (hw : InsideOk T) (b : Nat) (h1 : 1 ≤ b) (h5 : b ≤ 5) (ts : List (List Int)) (t : List Int) :
    runDef T p56_law_children [(.d, cond b ts), (.d, .tuple (ofInts t))] = .ok ((.l .d, .list (ofTups (kids b ts t))), [(.d, cond b ts), (.d, .tuple (ofInts t))]) := by
  have A := lsome_run T hl hw b h1 h5 ts t
  obtain ⟨z, L⟩ := chl_loop T hw (some (.d, cond b ts)) (some (.d, .tuple (ofInts t))) (some (.d, .bool (decide (t ∈ ts)))) (someOf b ts t) (someOf b ts t) [] none (by rw [List.length_nil, Nat.zero_add]; exact some_len b h1 h5 ts t)
  have e : [] ++ (someOf b ts t).filter (isKid2 (someOf b ts t)) = kids b ts t := by
    rw [List.nil_append]
    exact List.filter_congr fun o ho => kid_eq b h1 h5 _ (fun o h => some_in h) o ho
  rw [e] at L
  have F : execS T (.for_ (.var 4) (.e (.var 3)) [.ite (.op .eq [.comp (.int 1) [6] (.var 6) (.e (.var 3)) (.and (.op .gt [.op .len [.var 6], .op .len [.var 4]]) (.call 16 [.var 4, .var 6])), .lst []]) [.app 5 (.var 4)] []]) [some (.d, cond b ts), some (.d, .tuple (ofInts t)), some (.d, .bool (decide (t ∈ ts))), some (.l .d, .list (ofTups (someOf b ts t))), none, some (.l .d, .list []), none] = .ok (.nx [some (.d, cond b ts), some (.d, .tuple (ofInts t)), some (.d, .bool (decide (t ∈ ts))), some (.d, .list (ofTups (someOf b ts t))), z, some (.l .d, .list (ofTups (kids b ts t))), none]) := L
  refine run_rt ⟨rfl, by decide, rfl⟩ (ρ := [some (.d, cond b ts), some (.d, .tuple (ofInts t)), some (.d, .bool (decide (t ∈ ts))), some (.d, .list (ofTups (someOf b ts t))), z, none, none]) ?_ rfl
  show execSs T p56_law_children.body [some (.d, cond b ts), some (.d, .tuple (ofInts t)), none, none, none, none, none] = _
  have I : evalE T (.op .isin [.var 1, .op .ix [.var 0, .int 1]]) [some (.d, cond b ts), some (.d, .tuple (ofInts t)), none, none, none, none, none] = .ok ((.d, .bool (decide (t ∈ ts))), [some (.d, cond b ts), some (.d, .tuple (ofInts t)), none, none, none, none, none]) := by
    unfold cond
    simp -dsimp -implicitDefEqProofs only [ex_nil, ex_cons, then_nx, then_rt, then_ct, then_bk, ex_asg, ex_asgT, ex_par, ex_ret, ex_retMv, ex_ite, ex_brk, ex_cont, ev_var, ev_int, ev_bl, ev_non, ev_str, ev_dct, ev_tup, ev_lst, ev_op, ev_call, ev_and, ev_or, ev_not, ev_ifx, evs_nil, evs_cons, esv_nil, esv_cons, eas_nil, eas_var, eas_op, eas_int, eas_bl, eas_non, eas_str, eas_tup, eas_lst, eas_dct, eas_call, eas_and, eas_or, eas_not, eas_ifx, eas_comp, eas_slc, ex_put, putIn_l, ixN0, ixN1, fill_nil, fill_inl, fill_inr, asB_ok, bnd_ok, bnd_no, iff_t, iff_f, op_add, op_sub, op_neg, op_mul, op_fdiv, op_mod, op_gt, op_ge, op_lt, op_le, op_int, op_abs, op_min2, op_max2, op_lenL, op_lenS, op_lenD, op_lenT, op_tupL, op_tupD, op_ixL, op_ixD, op_ixS, op_ixT, atI0, atI1, setS_in, readV_eq, readO_d, readO_l, get_eq, getO_some, ixO_some, putO_some, List.getElem?_cons_zero, List.getElem?_cons_succ, List.set_cons_zero, List.set_cons_succ, List.length_cons, List.length_nil, Nat.reduceAdd, Nat.reduceLT, ne_eq, not_false_eq_true, and_self, true_and, and_true, op_inTups]
  unfold p56_law_children
  simp -dsimp -implicitDefEqProofs only [ex_nil, ex_cons, then_nx, then_rt, then_ct, then_bk, ex_asg, ex_asgT, ex_par, ex_ret, ex_retMv, ex_ite, ex_brk, ex_cont, ev_var, ev_int, ev_bl, ev_non, ev_str, ev_dct, ev_tup, ev_lst, ev_op, ev_call, ev_and, ev_or, ev_not, ev_ifx, evs_nil, evs_cons, esv_nil, esv_cons, eas_nil, eas_var, eas_op, eas_int, eas_bl, eas_non, eas_str, eas_tup, eas_lst, eas_dct, eas_call, eas_and, eas_or, eas_not, eas_ifx, eas_comp, eas_slc, ex_put, putIn_l, ixN0, ixN1, fill_nil, fill_inl, fill_inr, asB_ok, bnd_ok, bnd_no, iff_t, iff_f, op_add, op_sub, op_neg, op_mul, op_fdiv, op_mod, op_gt, op_ge, op_lt, op_le, op_int, op_abs, op_min2, op_max2, op_lenL, op_lenS, op_lenD, op_lenT, op_tupL, op_tupD, op_ixL, op_ixD, op_ixS, op_ixT, atI0, atI1, setS_in, readV_eq, readO_d, readO_l, get_eq, getO_some, ixO_some, putO_some, List.getElem?_cons_zero, List.getElem?_cons_succ, List.set_cons_zero, List.set_cons_succ, List.length_cons, List.length_nil, Nat.reduceAdd, Nat.reduceLT, ne_eq, not_false_eq_true, and_self, true_and, and_true, I, A, F]
end K02
end PL
end

section
set_option Elab.async false
set_option linter.all false
set_option maxRecDepth 100000
set_option autoImplicit false
/-! PW5: texts, targets, comprehensions that change something. -/
namespace PL
open PySem
variable {T : Tbl} {ρ : Env}
theorem small_nat {n : Nat} (h : n ≤ 1000000) : small n = true := by
  unfold small
  have a : decide (-(2 ^ 62) ≤ (n : Int)) = true := decide_eq_true (by omega)
  have b : decide ((n : Int) < 2 ^ 62) = true := decide_eq_true (by omega)
  rw [a, b]
  rfl
theorem cap_le {n : Nat} (h : n ≤ 1000000) : n ≤ sizeCap := Nat.le_trans h (by decide)
theorem fits_range {p : PE} {n : Nat} (h : n ≤ 1000000) : fits (.range1 p) (rangeUp 0 n) = true := by
  unfold fits
  have e : (rangeUp 0 n).length ≤ sizeCap := by
    unfold rangeUp
    rw [List.length_map, List.length_range]
    exact cap_le (by omega)
  rw [decide_eq_true e, Bool.or_true]
theorem asInt_i {i : Int} : asInt (.int i) = .ok i := (rfl)
theorem ei_range1_ok {a : PE} {n : Int} {k : Kd} {r : Env} (h : evalE T a ρ = .ok ((k, .int n), r)) (hs : small n = true) : evalI T (.range1 a) ρ = .ok (rangeUp 0 n, r) := by
  rw [ei_range1, h, bnd_ok]
  show R.bL (asInt (.int n)) _ = _
  rw [asInt_i, bnd_ok, hs, iff_t]
theorem setAll_nil : setAll ρ [] [] = .ok ρ := (rfl)
theorem setAll_cons {i : Nat} {is : List Nat} {v : SV} {vs : List SV} : setAll ρ (i :: is) (v :: vs) = (setS ρ i v).bL fun r => setAll r is vs := (rfl)
theorem bindT_var {i : Nat} {x : D} : bindT (.var i) x ρ = setS ρ i (.d, x) := (rfl)
theorem bindT_tup {ts : List PTg} {xs : List D} : bindT (.tup ts) (.tuple xs) ρ = bindTs ts xs ρ := (rfl)
theorem bindTs_nil : bindTs [] [] ρ = .ok ρ := (rfl)
theorem bindTs_cons {t : PTg} {ts : List PTg} {x : D} {xs : List D} : bindTs (t :: ts) (x :: xs) ρ = (bindT t x ρ).bL fun r => bindTs ts xs r := (rfl)
theorem sel_all {P : D → D → Prop} (hP : ∀ x y, P x y → ∃ d : Int, y = .int d) : ∀ {xs ys : List D}, Sel P (fun _ => False) xs ys → ∃ ns, ys = ofInts ns ∧ ns.length = xs.length
  | [], _, .nil => ⟨[], rfl, rfl⟩
  | x :: xs, _, .take h r => by
    obtain ⟨d, rfl⟩ := hP _ _ h
    obtain ⟨ns, rfl, hl⟩ := sel_all hP r
    exact ⟨d :: ns, rfl, by rw [List.length_cons, List.length_cons, hl]⟩
  | _, _, .skip h _ => h.elim
theorem sel_tups : ∀ {ts : List (List Int)} {ys : List D}, Sel (fun x y => y = x) (fun _ => True) (ofTups ts) ys → ∃ us, ys = ofTups us
  | [], _, .nil => ⟨[], rfl⟩
  | t :: ts, _, .take h r => by
    cases h
    obtain ⟨us, rfl⟩ := sel_tups r
    exact ⟨t :: us, rfl⟩
  | t :: ts, _, .skip _ r => sel_tups r
/-- some of the tuples, whichever, where a test changes something -/
theorem comp_tups_inv {cond : PE} {v : Nat} {it : PIt} {ts : List (List Int)} {ρ1 : Env} {Inv : Env → Prop} (hi : evalI T it ρ = .ok (ofTups ts, ρ1)) (hf : fits it (ofTups ts) = true) (hw : wipeOk ρ1 [v] = true)
    (h0 : Inv (ρ1.set v none)) (hv : ∀ r, Inv r → v < r.length)
    (hc : ∀ t ∈ ts, ∀ r, Inv r → ∃ c r1, evalE T cond (r.set v (some (.d, .tuple (ofInts t)))) = .ok ((.d, .bool c), r1) ∧ r1[v]? = some (some (.d, .tuple (ofInts t))) ∧ Inv (r1.set v none)) :
    ∃ us r2, evalE T (.comp (.var v) [v] (.var v) it cond) ρ = .ok ((.l .d, .list (ofTups us)), r2.set v (ρ1[v]?.getD none)) ∧ Inv r2 := by
  obtain ⟨ys, r2, e, h, hs⟩ := comp_inv (T := T) (elt := .var v) (cond := cond) (P := fun x y => y = x) (S := fun _ => True) (Inv := Inv) hi hf hw h0 hv fun x hx r hr => by
    obtain ⟨t, ht, rfl⟩ := List.mem_map.mp hx
    obtain ⟨c, r1, e, h1, h2⟩ := hc t ht r hr
    cases c with
    | false => exact .inl ⟨r1, e, trivial, h2⟩
    | true =>
      refine .inr ⟨r1, .d, .tuple (ofInts t), r1, e, ?_, rfl, h2⟩
      rw [ev_var, readV_eq, h1]
      rfl
  obtain ⟨us, rfl⟩ := sel_tups hs
  exact ⟨us, r2, e, h⟩
end PL
end

section
set_option Elab.async false
set_option linter.all false
set_option maxRecDepth 100000
set_option autoImplicit false
/-! PL02e: conditions of a form. -/
namespace PL
open PySem
namespace K02
theorem given_run (T : Tbl) (t : List Int) (n : Nat) (hn : n ≤ 5) : ∃ c, runDef T p17_law_given [(.d, .tuple (ofInts t)), (.d, .int n)] = .ok ((.d, .bool c), [(.d, .tuple (ofInts t)), (.d, .int n)]) := by
  have m1 : lim 2 = true := by decide
  have hs : small n = true := small_nat (by omega)
  obtain ⟨p, C⟩ := comp_onesE (T := T) (ρ := [some (.d, .tuple (ofInts t)), some (.d, .int n), none]) (cond := .and (.op .isin [.op .mul [.int 2, .var 2], .var 0]) (.op .notin [.op .add [.op .mul [.int 2, .var 2], .int 1], .var 0])) (v := 2) (it := .range1 (.var 1)) (items := rangeUp 0 n) (ρ1 := [some (.d, .tuple (ofInts t)), some (.d, .int n), none]) (ei_range1_ok (k := .d) (by simp -dsimp -implicitDefEqProofs only [ex_nil, ex_cons, then_nx, then_rt, then_ct, then_bk, ex_asg, ex_asgT, ex_par, ex_ret, ex_retMv, ex_ite, ex_brk, ex_cont, ev_var, ev_int, ev_bl, ev_non, ev_str, ev_dct, ev_tup, ev_lst, ev_op, ev_call, ev_and, ev_or, ev_not, ev_ifx, evs_nil, evs_cons, esv_nil, esv_cons, eas_nil, eas_var, eas_op, eas_int, eas_bl, eas_non, eas_str, eas_tup, eas_lst, eas_dct, eas_call, eas_and, eas_or, eas_not, eas_ifx, eas_comp, eas_slc, ex_put, putIn_l, ixN0, ixN1, fill_nil, fill_inl, fill_inr, asB_ok, bnd_ok, bnd_no, iff_t, iff_f, op_add, op_sub, op_neg, op_mul, op_fdiv, op_mod, op_gt, op_ge, op_lt, op_le, op_int, op_abs, op_min2, op_max2, op_lenL, op_lenS, op_lenD, op_lenT, op_tupL, op_tupD, op_ixL, op_ixD, op_ixS, op_ixT, atI0, atI1, setS_in, readV_eq, readO_d, readO_l, get_eq, getO_some, ixO_some, putO_some, List.getElem?_cons_zero, List.getElem?_cons_succ, List.set_cons_zero, List.set_cons_succ, List.length_cons, List.length_nil, Nat.reduceAdd, Nat.reduceLT, ne_eq, not_false_eq_true, and_self, true_and, and_true]) hs) (fits_range (by omega)) rfl (by show 2 < 3; decide) fun x hx => by
      obtain ⟨i, _, rfl⟩ := List.mem_map.mp hx
      show ∃ c, evalE T _ [some (.d, .tuple (ofInts t)), some (.d, .int n), some (.d, .int (0 + (i : Int)))] = R.ok ((Kd.d, PyData.bool c), [some (.d, .tuple (ofInts t)), some (.d, .int n), some (.d, .int (0 + (i : Int)))])
      cases h : decide ((2 * (0 + (i : Int))) ∈ t) with
      | true =>
        refine ⟨!decide ((2 * (0 + (i : Int)) + 1) ∈ t), ?_⟩
        simp -dsimp -implicitDefEqProofs only [ex_nil, ex_cons, then_nx, then_rt, then_ct, then_bk, ex_asg, ex_asgT, ex_par, ex_ret, ex_retMv, ex_ite, ex_brk, ex_cont, ev_var, ev_int, ev_bl, ev_non, ev_str, ev_dct, ev_tup, ev_lst, ev_op, ev_call, ev_and, ev_or, ev_not, ev_ifx, evs_nil, evs_cons, esv_nil, esv_cons, eas_nil, eas_var, eas_op, eas_int, eas_bl, eas_non, eas_str, eas_tup, eas_lst, eas_dct, eas_call, eas_and, eas_or, eas_not, eas_ifx, eas_comp, eas_slc, ex_put, putIn_l, ixN0, ixN1, fill_nil, fill_inl, fill_inr, asB_ok, bnd_ok, bnd_no, iff_t, iff_f, op_add, op_sub, op_neg, op_mul, op_fdiv, op_mod, op_gt, op_ge, op_lt, op_le, op_int, op_abs, op_min2, op_max2, op_lenL, op_lenS, op_lenD, op_lenT, op_tupL, op_tupD, op_ixL, op_ixD, op_ixS, op_ixT, atI0, atI1, setS_in, readV_eq, readO_d, readO_l, get_eq, getO_some, ixO_some, putO_some, List.getElem?_cons_zero, List.getElem?_cons_succ, List.set_cons_zero, List.set_cons_succ, List.length_cons, List.length_nil, Nat.reduceAdd, Nat.reduceLT, ne_eq, not_false_eq_true, and_self, true_and, and_true, m1, op_mulL, op_inInts, h, op_ninInts]
      | false =>
        refine ⟨false, ?_⟩
        simp -dsimp -implicitDefEqProofs only [ex_nil, ex_cons, then_nx, then_rt, then_ct, then_bk, ex_asg, ex_asgT, ex_par, ex_ret, ex_retMv, ex_ite, ex_brk, ex_cont, ev_var, ev_int, ev_bl, ev_non, ev_str, ev_dct, ev_tup, ev_lst, ev_op, ev_call, ev_and, ev_or, ev_not, ev_ifx, evs_nil, evs_cons, esv_nil, esv_cons, eas_nil, eas_var, eas_op, eas_int, eas_bl, eas_non, eas_str, eas_tup, eas_lst, eas_dct, eas_call, eas_and, eas_or, eas_not, eas_ifx, eas_comp, eas_slc, ex_put, putIn_l, ixN0, ixN1, fill_nil, fill_inl, fill_inr, asB_ok, bnd_ok, bnd_no, iff_t, iff_f, op_add, op_sub, op_neg, op_mul, op_fdiv, op_mod, op_gt, op_ge, op_lt, op_le, op_int, op_abs, op_min2, op_max2, op_lenL, op_lenS, op_lenD, op_lenT, op_tupL, op_tupD, op_ixL, op_ixD, op_ixS, op_ixT, atI0, atI1, setS_in, readV_eq, readO_d, readO_l, get_eq, getO_some, ixO_some, putO_some, List.getElem?_cons_zero, List.getElem?_cons_succ, List.set_cons_zero, List.set_cons_succ, List.length_cons, List.length_nil, Nat.reduceAdd, Nat.reduceLT, ne_eq, not_false_eq_true, and_self, true_and, and_true, m1, op_mulL, op_inInts, h]
  refine ⟨!(rangeUp 0 n).any p, run_rt (ρ := [some (.d, .tuple (ofInts t)), some (.d, .int n), none]) ⟨rfl, by decide, rfl⟩ ?_ rfl⟩
  show execSs T p17_law_given.body [some (.d, .tuple (ofInts t)), some (.d, .int n), none] = _
  unfold p17_law_given
  simp -dsimp -implicitDefEqProofs only [ex_nil, ex_cons, then_nx, then_rt, then_ct, then_bk, ex_asg, ex_asgT, ex_par, ex_ret, ex_retMv, ex_ite, ex_brk, ex_cont, ev_var, ev_int, ev_bl, ev_non, ev_str, ev_dct, ev_tup, ev_lst, ev_op, ev_call, ev_and, ev_or, ev_not, ev_ifx, evs_nil, evs_cons, esv_nil, esv_cons, eas_nil, eas_var, eas_op, eas_int, eas_bl, eas_non, eas_str, eas_tup, eas_lst, eas_dct, eas_call, eas_and, eas_or, eas_not, eas_ifx, eas_comp, eas_slc, ex_put, putIn_l, ixN0, ixN1, fill_nil, fill_inl, fill_inr, asB_ok, bnd_ok, bnd_no, iff_t, iff_f, op_add, op_sub, op_neg, op_mul, op_fdiv, op_mod, op_gt, op_ge, op_lt, op_le, op_int, op_abs, op_min2, op_max2, op_lenL, op_lenS, op_lenD, op_lenT, op_tupL, op_tupD, op_ixL, op_ixD, op_ixS, op_ixT, atI0, atI1, setS_in, readV_eq, readO_d, readO_l, get_eq, getO_some, ixO_some, putO_some, List.getElem?_cons_zero, List.getElem?_cons_succ, List.set_cons_zero, List.set_cons_succ, List.length_cons, List.length_nil, Nat.reduceAdd, Nat.reduceLT, ne_eq, not_false_eq_true, and_self, true_and, and_true, C, op_eqOnes]
def GivenOk (T : Tbl) : Prop := ∀ (t : List Int) (n : Nat), n ≤ 5 → ∃ c, T.f 17 [(.d, .tuple (ofInts t)), (.d, .int n)] = .ok ((.d, .bool c), [(.d, .tuple (ofInts t)), (.d, .int n)])
def inB (b : Nat) (o : List Int) : Bool := !o.isEmpty && o.all fun c => decide (0 ≤ c) && decide (c < b)
theorem inB1 : ((LL 1).all (inB 1)) = true := by kernel_rfl
theorem inB2 : ((LL 2).all (inB 2)) = true := by kernel_rfl
theorem inB3 : ((LL 3).all (inB 3)) = true := by kernel_rfl
theorem inB4 : ((LL 4).all (inB 4)) = true := by kernel_rfl
theorem inB5 : ((LL 5).all (inB 5)) = true := by kernel_rfl
theorem inB_ok (b : Nat) (h1 : 1 ≤ b) (h5 : b ≤ 5) (o : List Int) (ho : o ∈ LL b) : o ≠ [] ∧ ∀ c ∈ o, 0 ≤ c ∧ c < b := by
  have A : ((LL b).all (inB b)) = true := by
    have : b = 1 ∨ b = 2 ∨ b = 3 ∨ b = 4 ∨ b = 5 := by omega
    rcases this with rfl | rfl | rfl | rfl | rfl
    · exact inB1
    · exact inB2
    · exact inB3
    · exact inB4
    · exact inB5
  have B := List.all_eq_true.mp A o ho
  obtain ⟨B1, B2⟩ := Bool.and_eq_true_iff.mp B
  refine ⟨fun h => by subst h; exact absurd B1 (by decide), fun c hc => ?_⟩
  obtain ⟨C1, C2⟩ := Bool.and_eq_true_iff.mp (List.all_eq_true.mp B2 c hc)
  exact ⟨of_decide_eq_true C1, of_decide_eq_true C2⟩
/-! what stands behind a kind -/
inductive KW (b : Nat) : Str → D → Prop
  | all {w : D} : KW b (Str.ofString "all") w
  | some {t : List Int} : KW b (Str.ofString "some") (.tuple (ofInts t))
  | ranks {ns : List Int} : ns.length = b → KW b (Str.ofString "ranks") (.tuple (ofInts ns))
  | pairs {n : Nat} : n ≤ 5 → KW b (Str.ofString "pairs") (.int n)
  | just {i : Int} : KW b (Str.ofString "just") (.int i)
  | many {i : Int} : KW b (Str.ofString "many") (.int i)
  | even {i : Int} : KW b (Str.ofString "even") (.int i)
theorem s_all_all : opV .eq [(.d, .str (Str.ofString "all")), (.d, .str (Str.ofString "all"))] = .ok (.d, .bool true) := by kernel_rfl
theorem s_all_some : opV .eq [(.d, .str (Str.ofString "all")), (.d, .str (Str.ofString "some"))] = .ok (.d, .bool false) := by kernel_rfl
theorem s_all_ranks : opV .eq [(.d, .str (Str.ofString "all")), (.d, .str (Str.ofString "ranks"))] = .ok (.d, .bool false) := by kernel_rfl
theorem s_all_pairs : opV .eq [(.d, .str (Str.ofString "all")), (.d, .str (Str.ofString "pairs"))] = .ok (.d, .bool false) := by kernel_rfl
theorem s_all_many : opV .eq [(.d, .str (Str.ofString "all")), (.d, .str (Str.ofString "many"))] = .ok (.d, .bool false) := by kernel_rfl
theorem s_all_even : opV .eq [(.d, .str (Str.ofString "all")), (.d, .str (Str.ofString "even"))] = .ok (.d, .bool false) := by kernel_rfl
theorem s_some_all : opV .eq [(.d, .str (Str.ofString "some")), (.d, .str (Str.ofString "all"))] = .ok (.d, .bool false) := by kernel_rfl
theorem s_some_some : opV .eq [(.d, .str (Str.ofString "some")), (.d, .str (Str.ofString "some"))] = .ok (.d, .bool true) := by kernel_rfl
theorem s_some_ranks : opV .eq [(.d, .str (Str.ofString "some")), (.d, .str (Str.ofString "ranks"))] = .ok (.d, .bool false) := by kernel_rfl
theorem s_some_pairs : opV .eq [(.d, .str (Str.ofString "some")), (.d, .str (Str.ofString "pairs"))] = .ok (.d, .bool false) := by kernel_rfl
theorem s_some_many : opV .eq [(.d, .str (Str.ofString "some")), (.d, .str (Str.ofString "many"))] = .ok (.d, .bool false) := by kernel_rfl
theorem s_some_even : opV .eq [(.d, .str (Str.ofString "some")), (.d, .str (Str.ofString "even"))] = .ok (.d, .bool false) := by kernel_rfl
theorem s_ranks_all : opV .eq [(.d, .str (Str.ofString "ranks")), (.d, .str (Str.ofString "all"))] = .ok (.d, .bool false) := by kernel_rfl
theorem s_ranks_some : opV .eq [(.d, .str (Str.ofString "ranks")), (.d, .str (Str.ofString "some"))] = .ok (.d, .bool false) := by kernel_rfl
theorem s_ranks_ranks : opV .eq [(.d, .str (Str.ofString "ranks")), (.d, .str (Str.ofString "ranks"))] = .ok (.d, .bool true) := by kernel_rfl
theorem s_ranks_pairs : opV .eq [(.d, .str (Str.ofString "ranks")), (.d, .str (Str.ofString "pairs"))] = .ok (.d, .bool false) := by kernel_rfl
theorem s_ranks_many : opV .eq [(.d, .str (Str.ofString "ranks")), (.d, .str (Str.ofString "many"))] = .ok (.d, .bool false) := by kernel_rfl
theorem s_ranks_even : opV .eq [(.d, .str (Str.ofString "ranks")), (.d, .str (Str.ofString "even"))] = .ok (.d, .bool false) := by kernel_rfl
theorem s_pairs_all : opV .eq [(.d, .str (Str.ofString "pairs")), (.d, .str (Str.ofString "all"))] = .ok (.d, .bool false) := by kernel_rfl
theorem s_pairs_some : opV .eq [(.d, .str (Str.ofString "pairs")), (.d, .str (Str.ofString "some"))] = .ok (.d, .bool false) := by kernel_rfl
theorem s_pairs_ranks : opV .eq [(.d, .str (Str.ofString "pairs")), (.d, .str (Str.ofString "ranks"))] = .ok (.d, .bool false) := by kernel_rfl
theorem s_pairs_pairs : opV .eq [(.d, .str (Str.ofString "pairs")), (.d, .str (Str.ofString "pairs"))] = .ok (.d, .bool true) := by kernel_rfl
theorem s_pairs_many : opV .eq [(.d, .str (Str.ofString "pairs")), (.d, .str (Str.ofString "many"))] = .ok (.d, .bool false) := by kernel_rfl
theorem s_pairs_even : opV .eq [(.d, .str (Str.ofString "pairs")), (.d, .str (Str.ofString "even"))] = .ok (.d, .bool false) := by kernel_rfl
theorem s_just_all : opV .eq [(.d, .str (Str.ofString "just")), (.d, .str (Str.ofString "all"))] = .ok (.d, .bool false) := by kernel_rfl
theorem s_just_some : opV .eq [(.d, .str (Str.ofString "just")), (.d, .str (Str.ofString "some"))] = .ok (.d, .bool false) := by kernel_rfl
theorem s_just_ranks : opV .eq [(.d, .str (Str.ofString "just")), (.d, .str (Str.ofString "ranks"))] = .ok (.d, .bool false) := by kernel_rfl
theorem s_just_pairs : opV .eq [(.d, .str (Str.ofString "just")), (.d, .str (Str.ofString "pairs"))] = .ok (.d, .bool false) := by kernel_rfl
theorem s_just_many : opV .eq [(.d, .str (Str.ofString "just")), (.d, .str (Str.ofString "many"))] = .ok (.d, .bool false) := by kernel_rfl
theorem s_just_even : opV .eq [(.d, .str (Str.ofString "just")), (.d, .str (Str.ofString "even"))] = .ok (.d, .bool false) := by kernel_rfl
theorem s_many_all : opV .eq [(.d, .str (Str.ofString "many")), (.d, .str (Str.ofString "all"))] = .ok (.d, .bool false) := by kernel_rfl
theorem s_many_some : opV .eq [(.d, .str (Str.ofString "many")), (.d, .str (Str.ofString "some"))] = .ok (.d, .bool false) := by kernel_rfl
theorem s_many_ranks : opV .eq [(.d, .str (Str.ofString "many")), (.d, .str (Str.ofString "ranks"))] = .ok (.d, .bool false) := by kernel_rfl
theorem s_many_pairs : opV .eq [(.d, .str (Str.ofString "many")), (.d, .str (Str.ofString "pairs"))] = .ok (.d, .bool false) := by kernel_rfl
theorem s_many_many : opV .eq [(.d, .str (Str.ofString "many")), (.d, .str (Str.ofString "many"))] = .ok (.d, .bool true) := by kernel_rfl
theorem s_many_even : opV .eq [(.d, .str (Str.ofString "many")), (.d, .str (Str.ofString "even"))] = .ok (.d, .bool false) := by kernel_rfl
theorem s_even_all : opV .eq [(.d, .str (Str.ofString "even")), (.d, .str (Str.ofString "all"))] = .ok (.d, .bool false) := by kernel_rfl
theorem s_even_some : opV .eq [(.d, .str (Str.ofString "even")), (.d, .str (Str.ofString "some"))] = .ok (.d, .bool false) := by kernel_rfl
theorem s_even_ranks : opV .eq [(.d, .str (Str.ofString "even")), (.d, .str (Str.ofString "ranks"))] = .ok (.d, .bool false) := by kernel_rfl
theorem s_even_pairs : opV .eq [(.d, .str (Str.ofString "even")), (.d, .str (Str.ofString "pairs"))] = .ok (.d, .bool false) := by kernel_rfl
theorem s_even_many : opV .eq [(.d, .str (Str.ofString "even")), (.d, .str (Str.ofString "many"))] = .ok (.d, .bool false) := by kernel_rfl
theorem s_even_even : opV .eq [(.d, .str (Str.ofString "even")), (.d, .str (Str.ofString "even"))] = .ok (.d, .bool true) := by kernel_rfl
theorem by_all (T : Tbl) (hl : LotsOk T) (b : Nat) (h1 : 1 ≤ b) (h5 : b ≤ 5) (w : D) : ∃ us, runDef T p52_law_by [(.d, .int b), (.d, .str (Str.ofString "all")), (.d, w)] = .ok ((.d, cond b us), [(.d, .int b), (.d, .str (Str.ofString "all")), (.d, w)]) := by
  have hl := hl b h1 h5
  obtain ⟨us, C⟩ : ∃ us, evalE T (.comp (.var 4) [4] (.var 4) (.e (.var 3)) (.op .eq [.op .len [.var 4], .var 0])) [some (.d, .int b), some (.d, .str (Str.ofString "all")), some (.d, w), some (.l .d, .list (ofTups (LL b))), none, none] = .ok ((.l .d, .list (ofTups us)), [some (.d, .int b), some (.d, .str (Str.ofString "all")), some (.d, w), some (.d, .list (ofTups (LL b))), none, none]) := by
    refine comp_tupsE (ts := LL b) (ρ1 := [some (.d, .int b), some (.d, .str (Str.ofString "all")), some (.d, w), some (.d, .list (ofTups (LL b))), none, none]) ?_ rfl rfl (by show 4 < 6; decide) fun o ho => ?_
    · rw [ei_e]
      simp -dsimp -implicitDefEqProofs only [ex_nil, ex_cons, then_nx, then_rt, then_ct, then_bk, ex_asg, ex_asgT, ex_par, ex_ret, ex_retMv, ex_ite, ex_brk, ex_cont, ev_var, ev_int, ev_bl, ev_non, ev_str, ev_dct, ev_tup, ev_lst, ev_op, ev_call, ev_and, ev_or, ev_not, ev_ifx, evs_nil, evs_cons, esv_nil, esv_cons, eas_nil, eas_var, eas_op, eas_int, eas_bl, eas_non, eas_str, eas_tup, eas_lst, eas_dct, eas_call, eas_and, eas_or, eas_not, eas_ifx, eas_comp, eas_slc, ex_put, putIn_l, ixN0, ixN1, fill_nil, fill_inl, fill_inr, asB_ok, bnd_ok, bnd_no, iff_t, iff_f, op_add, op_sub, op_neg, op_mul, op_fdiv, op_mod, op_gt, op_ge, op_lt, op_le, op_int, op_abs, op_min2, op_max2, op_lenL, op_lenS, op_lenD, op_lenT, op_tupL, op_tupD, op_ixL, op_ixD, op_ixS, op_ixT, atI0, atI1, setS_in, readV_eq, readO_d, readO_l, get_eq, getO_some, ixO_some, putO_some, List.getElem?_cons_zero, List.getElem?_cons_succ, List.set_cons_zero, List.set_cons_succ, List.length_cons, List.length_nil, Nat.reduceAdd, Nat.reduceLT, ne_eq, not_false_eq_true, and_self, true_and, and_true]
      rfl
    · show ∃ c, evalE T _ [some (.d, .int b), some (.d, .str (Str.ofString "all")), some (.d, w), some (.d, .list (ofTups (LL b))), some (.d, .tuple (ofInts o)), none] = R.ok (_, [some (.d, .int b), some (.d, .str (Str.ofString "all")), some (.d, w), some (.d, .list (ofTups (LL b))), some (.d, .tuple (ofInts o)), none])
      exact ⟨decide (((ofInts o).length : Int) = (b : Int)), by simp -dsimp -implicitDefEqProofs only [ex_nil, ex_cons, then_nx, then_rt, then_ct, then_bk, ex_asg, ex_asgT, ex_par, ex_ret, ex_retMv, ex_ite, ex_brk, ex_cont, ev_var, ev_int, ev_bl, ev_non, ev_str, ev_dct, ev_tup, ev_lst, ev_op, ev_call, ev_and, ev_or, ev_not, ev_ifx, evs_nil, evs_cons, esv_nil, esv_cons, eas_nil, eas_var, eas_op, eas_int, eas_bl, eas_non, eas_str, eas_tup, eas_lst, eas_dct, eas_call, eas_and, eas_or, eas_not, eas_ifx, eas_comp, eas_slc, ex_put, putIn_l, ixN0, ixN1, fill_nil, fill_inl, fill_inr, asB_ok, bnd_ok, bnd_no, iff_t, iff_f, op_add, op_sub, op_neg, op_mul, op_fdiv, op_mod, op_gt, op_ge, op_lt, op_le, op_int, op_abs, op_min2, op_max2, op_lenL, op_lenS, op_lenD, op_lenT, op_tupL, op_tupD, op_ixL, op_ixD, op_ixS, op_ixT, atI0, atI1, setS_in, readV_eq, readO_d, readO_l, get_eq, getO_some, ixO_some, putO_some, List.getElem?_cons_zero, List.getElem?_cons_succ, List.set_cons_zero, List.set_cons_succ, List.length_cons, List.length_nil, Nat.reduceAdd, Nat.reduceLT, ne_eq, not_false_eq_true, and_self, true_and, and_true, op_eqI]⟩
  refine ⟨us, run_rt (ρ := [some (.d, .int b), some (.d, .str (Str.ofString "all")), some (.d, w), some (.d, .list (ofTups (LL b))), none, none]) ⟨rfl, by decide, rfl⟩ ?_ rfl⟩
  show execSs T p52_law_by.body [some (.d, .int b), some (.d, .str (Str.ofString "all")), some (.d, w), none, none, none] = _
  unfold p52_law_by cond
  simp -dsimp -implicitDefEqProofs only [ex_nil, ex_cons, then_nx, then_rt, then_ct, then_bk, ex_asg, ex_asgT, ex_par, ex_ret, ex_retMv, ex_ite, ex_brk, ex_cont, ev_var, ev_int, ev_bl, ev_non, ev_str, ev_dct, ev_tup, ev_lst, ev_op, ev_call, ev_and, ev_or, ev_not, ev_ifx, evs_nil, evs_cons, esv_nil, esv_cons, eas_nil, eas_var, eas_op, eas_int, eas_bl, eas_non, eas_str, eas_tup, eas_lst, eas_dct, eas_call, eas_and, eas_or, eas_not, eas_ifx, eas_comp, eas_slc, ex_put, putIn_l, ixN0, ixN1, fill_nil, fill_inl, fill_inr, asB_ok, bnd_ok, bnd_no, iff_t, iff_f, op_add, op_sub, op_neg, op_mul, op_fdiv, op_mod, op_gt, op_ge, op_lt, op_le, op_int, op_abs, op_min2, op_max2, op_lenL, op_lenS, op_lenD, op_lenT, op_tupL, op_tupD, op_ixL, op_ixD, op_ixS, op_ixT, atI0, atI1, setS_in, readV_eq, readO_d, readO_l, get_eq, getO_some, ixO_some, putO_some, List.getElem?_cons_zero, List.getElem?_cons_succ, List.set_cons_zero, List.set_cons_succ, List.length_cons, List.length_nil, Nat.reduceAdd, Nat.reduceLT, ne_eq, not_false_eq_true, and_self, true_and, and_true, own_d, own_n, nd_nil, pb_d, pb_n, noS_l, hl, s_all_all, s_all_some, s_all_ranks, s_all_pairs, s_all_many, s_all_even, C, op_tupD]
theorem by_some (T : Tbl) (hl : LotsOk T) (b : Nat) (h1 : 1 ≤ b) (h5 : b ≤ 5) (t : List Int) : ∃ us, runDef T p52_law_by [(.d, .int b), (.d, .str (Str.ofString "some")), (.d, .tuple (ofInts t))] = .ok ((.d, cond b us), [(.d, .int b), (.d, .str (Str.ofString "some")), (.d, .tuple (ofInts t))]) := by
  have hl := hl b h1 h5
  obtain ⟨us, C⟩ : ∃ us, evalE T (.comp (.var 4) [4] (.var 4) (.e (.var 3)) (.op .ne [.comp (.int 1) [5] (.var 5) (.e (.var 4)) (.op .isin [.var 5, .var 2]), .lst []])) [some (.d, .int b), some (.d, .str (Str.ofString "some")), some (.d, .tuple (ofInts t)), some (.l .d, .list (ofTups (LL b))), none, none] = .ok ((.l .d, .list (ofTups us)), [some (.d, .int b), some (.d, .str (Str.ofString "some")), some (.d, .tuple (ofInts t)), some (.d, .list (ofTups (LL b))), none, none]) := by
    refine comp_tupsE (ts := LL b) (ρ1 := [some (.d, .int b), some (.d, .str (Str.ofString "some")), some (.d, .tuple (ofInts t)), some (.d, .list (ofTups (LL b))), none, none]) ?_ rfl rfl (by show 4 < 6; decide) fun o ho => ?_
    · rw [ei_e]
      simp -dsimp -implicitDefEqProofs only [ex_nil, ex_cons, then_nx, then_rt, then_ct, then_bk, ex_asg, ex_asgT, ex_par, ex_ret, ex_retMv, ex_ite, ex_brk, ex_cont, ev_var, ev_int, ev_bl, ev_non, ev_str, ev_dct, ev_tup, ev_lst, ev_op, ev_call, ev_and, ev_or, ev_not, ev_ifx, evs_nil, evs_cons, esv_nil, esv_cons, eas_nil, eas_var, eas_op, eas_int, eas_bl, eas_non, eas_str, eas_tup, eas_lst, eas_dct, eas_call, eas_and, eas_or, eas_not, eas_ifx, eas_comp, eas_slc, ex_put, putIn_l, ixN0, ixN1, fill_nil, fill_inl, fill_inr, asB_ok, bnd_ok, bnd_no, iff_t, iff_f, op_add, op_sub, op_neg, op_mul, op_fdiv, op_mod, op_gt, op_ge, op_lt, op_le, op_int, op_abs, op_min2, op_max2, op_lenL, op_lenS, op_lenD, op_lenT, op_tupL, op_tupD, op_ixL, op_ixD, op_ixS, op_ixT, atI0, atI1, setS_in, readV_eq, readO_d, readO_l, get_eq, getO_some, ixO_some, putO_some, List.getElem?_cons_zero, List.getElem?_cons_succ, List.set_cons_zero, List.set_cons_succ, List.length_cons, List.length_nil, Nat.reduceAdd, Nat.reduceLT, ne_eq, not_false_eq_true, and_self, true_and, and_true]
      rfl
    · show ∃ c, evalE T _ [some (.d, .int b), some (.d, .str (Str.ofString "some")), some (.d, .tuple (ofInts t)), some (.d, .list (ofTups (LL b))), some (.d, .tuple (ofInts o)), none] = R.ok (_, [some (.d, .int b), some (.d, .str (Str.ofString "some")), some (.d, .tuple (ofInts t)), some (.d, .list (ofTups (LL b))), some (.d, .tuple (ofInts o)), none])
      obtain ⟨p, I⟩ := comp_onesE (T := T) (ρ := [some (.d, .int b), some (.d, .str (Str.ofString "some")), some (.d, .tuple (ofInts t)), some (.d, .list (ofTups (LL b))), some (.d, .tuple (ofInts o)), none]) (ρ1 := [some (.d, .int b), some (.d, .str (Str.ofString "some")), some (.d, .tuple (ofInts t)), some (.d, .list (ofTups (LL b))), some (.d, .tuple (ofInts o)), none]) (cond := .op .isin [.var 5, .var 2]) (v := 5) (it := .e (.var 4)) (items := ofInts o) rfl rfl rfl (by show 5 < 6; decide) fun x hx => by
        obtain ⟨c, _, rfl⟩ := List.mem_map.mp hx
        show ∃ c' : Bool, evalE T _ [some (.d, .int b), some (.d, .str (Str.ofString "some")), some (.d, .tuple (ofInts t)), some (.d, .list (ofTups (LL b))), some (.d, .tuple (ofInts o)), some (.d, .int c)] = R.ok ((Kd.d, PyData.bool c'), [some (.d, .int b), some (.d, .str (Str.ofString "some")), some (.d, .tuple (ofInts t)), some (.d, .list (ofTups (LL b))), some (.d, .tuple (ofInts o)), some (.d, .int c)])
        exact ⟨decide (c ∈ t), by simp -dsimp -implicitDefEqProofs only [ex_nil, ex_cons, then_nx, then_rt, then_ct, then_bk, ex_asg, ex_asgT, ex_par, ex_ret, ex_retMv, ex_ite, ex_brk, ex_cont, ev_var, ev_int, ev_bl, ev_non, ev_str, ev_dct, ev_tup, ev_lst, ev_op, ev_call, ev_and, ev_or, ev_not, ev_ifx, evs_nil, evs_cons, esv_nil, esv_cons, eas_nil, eas_var, eas_op, eas_int, eas_bl, eas_non, eas_str, eas_tup, eas_lst, eas_dct, eas_call, eas_and, eas_or, eas_not, eas_ifx, eas_comp, eas_slc, ex_put, putIn_l, ixN0, ixN1, fill_nil, fill_inl, fill_inr, asB_ok, bnd_ok, bnd_no, iff_t, iff_f, op_add, op_sub, op_neg, op_mul, op_fdiv, op_mod, op_gt, op_ge, op_lt, op_le, op_int, op_abs, op_min2, op_max2, op_lenL, op_lenS, op_lenD, op_lenT, op_tupL, op_tupD, op_ixL, op_ixD, op_ixS, op_ixT, atI0, atI1, setS_in, readV_eq, readO_d, readO_l, get_eq, getO_some, ixO_some, putO_some, List.getElem?_cons_zero, List.getElem?_cons_succ, List.set_cons_zero, List.set_cons_succ, List.length_cons, List.length_nil, Nat.reduceAdd, Nat.reduceLT, ne_eq, not_false_eq_true, and_self, true_and, and_true, op_inInts]⟩
      exact ⟨(ofInts o).any p, by simp -dsimp -implicitDefEqProofs only [ex_nil, ex_cons, then_nx, then_rt, then_ct, then_bk, ex_asg, ex_asgT, ex_par, ex_ret, ex_retMv, ex_ite, ex_brk, ex_cont, ev_var, ev_int, ev_bl, ev_non, ev_str, ev_dct, ev_tup, ev_lst, ev_op, ev_call, ev_and, ev_or, ev_not, ev_ifx, evs_nil, evs_cons, esv_nil, esv_cons, eas_nil, eas_var, eas_op, eas_int, eas_bl, eas_non, eas_str, eas_tup, eas_lst, eas_dct, eas_call, eas_and, eas_or, eas_not, eas_ifx, eas_comp, eas_slc, ex_put, putIn_l, ixN0, ixN1, fill_nil, fill_inl, fill_inr, asB_ok, bnd_ok, bnd_no, iff_t, iff_f, op_add, op_sub, op_neg, op_mul, op_fdiv, op_mod, op_gt, op_ge, op_lt, op_le, op_int, op_abs, op_min2, op_max2, op_lenL, op_lenS, op_lenD, op_lenT, op_tupL, op_tupD, op_ixL, op_ixD, op_ixS, op_ixT, atI0, atI1, setS_in, readV_eq, readO_d, readO_l, get_eq, getO_some, ixO_some, putO_some, List.getElem?_cons_zero, List.getElem?_cons_succ, List.set_cons_zero, List.set_cons_succ, List.length_cons, List.length_nil, Nat.reduceAdd, Nat.reduceLT, ne_eq, not_false_eq_true, and_self, true_and, and_true, I, op_neOnes]⟩
  refine ⟨us, run_rt (ρ := [some (.d, .int b), some (.d, .str (Str.ofString "some")), some (.d, .tuple (ofInts t)), some (.d, .list (ofTups (LL b))), none, none]) ⟨rfl, by decide, rfl⟩ ?_ rfl⟩
  show execSs T p52_law_by.body [some (.d, .int b), some (.d, .str (Str.ofString "some")), some (.d, .tuple (ofInts t)), none, none, none] = _
  unfold p52_law_by cond
  simp -dsimp -implicitDefEqProofs only [ex_nil, ex_cons, then_nx, then_rt, then_ct, then_bk, ex_asg, ex_asgT, ex_par, ex_ret, ex_retMv, ex_ite, ex_brk, ex_cont, ev_var, ev_int, ev_bl, ev_non, ev_str, ev_dct, ev_tup, ev_lst, ev_op, ev_call, ev_and, ev_or, ev_not, ev_ifx, evs_nil, evs_cons, esv_nil, esv_cons, eas_nil, eas_var, eas_op, eas_int, eas_bl, eas_non, eas_str, eas_tup, eas_lst, eas_dct, eas_call, eas_and, eas_or, eas_not, eas_ifx, eas_comp, eas_slc, ex_put, putIn_l, ixN0, ixN1, fill_nil, fill_inl, fill_inr, asB_ok, bnd_ok, bnd_no, iff_t, iff_f, op_add, op_sub, op_neg, op_mul, op_fdiv, op_mod, op_gt, op_ge, op_lt, op_le, op_int, op_abs, op_min2, op_max2, op_lenL, op_lenS, op_lenD, op_lenT, op_tupL, op_tupD, op_ixL, op_ixD, op_ixS, op_ixT, atI0, atI1, setS_in, readV_eq, readO_d, readO_l, get_eq, getO_some, ixO_some, putO_some, List.getElem?_cons_zero, List.getElem?_cons_succ, List.set_cons_zero, List.set_cons_succ, List.length_cons, List.length_nil, Nat.reduceAdd, Nat.reduceLT, ne_eq, not_false_eq_true, and_self, true_and, and_true, own_d, own_n, nd_nil, pb_d, pb_n, noS_l, hl, s_some_all, s_some_some, s_some_ranks, s_some_pairs, s_some_many, s_some_even, C, op_tupD]
theorem by_ranks (T : Tbl) (hl : LotsOk T) (b : Nat) (h1 : 1 ≤ b) (h5 : b ≤ 5) (ns : List Int) (hns : ns.length = b) : ∃ us, runDef T p52_law_by [(.d, .int b), (.d, .str (Str.ofString "ranks")), (.d, .tuple (ofInts ns))] = .ok ((.d, cond b us), [(.d, .int b), (.d, .str (Str.ofString "ranks")), (.d, .tuple (ofInts ns))]) := by
  have hl := hl b h1 h5
  obtain ⟨us, C⟩ : ∃ us, evalE T (.comp (.var 4) [4] (.var 4) (.e (.var 3)) (.op .eq [.op .mod [.op .int [.op .minL [.comp (.op .ix [.var 2, .var 5]) [5] (.var 5) (.e (.var 4)) (.bl true)]], .int 2], .int 0])) [some (.d, .int b), some (.d, .str (Str.ofString "ranks")), some (.d, .tuple (ofInts ns)), some (.l .d, .list (ofTups (LL b))), none, none] = .ok ((.l .d, .list (ofTups us)), [some (.d, .int b), some (.d, .str (Str.ofString "ranks")), some (.d, .tuple (ofInts ns)), some (.d, .list (ofTups (LL b))), none, none]) := by
    refine comp_tupsE (ts := LL b) (ρ1 := [some (.d, .int b), some (.d, .str (Str.ofString "ranks")), some (.d, .tuple (ofInts ns)), some (.d, .list (ofTups (LL b))), none, none]) ?_ rfl rfl (by show 4 < 6; decide) fun o ho => ?_
    · rw [ei_e]
      simp -dsimp -implicitDefEqProofs only [ex_nil, ex_cons, then_nx, then_rt, then_ct, then_bk, ex_asg, ex_asgT, ex_par, ex_ret, ex_retMv, ex_ite, ex_brk, ex_cont, ev_var, ev_int, ev_bl, ev_non, ev_str, ev_dct, ev_tup, ev_lst, ev_op, ev_call, ev_and, ev_or, ev_not, ev_ifx, evs_nil, evs_cons, esv_nil, esv_cons, eas_nil, eas_var, eas_op, eas_int, eas_bl, eas_non, eas_str, eas_tup, eas_lst, eas_dct, eas_call, eas_and, eas_or, eas_not, eas_ifx, eas_comp, eas_slc, ex_put, putIn_l, ixN0, ixN1, fill_nil, fill_inl, fill_inr, asB_ok, bnd_ok, bnd_no, iff_t, iff_f, op_add, op_sub, op_neg, op_mul, op_fdiv, op_mod, op_gt, op_ge, op_lt, op_le, op_int, op_abs, op_min2, op_max2, op_lenL, op_lenS, op_lenD, op_lenT, op_tupL, op_tupD, op_ixL, op_ixD, op_ixS, op_ixT, atI0, atI1, setS_in, readV_eq, readO_d, readO_l, get_eq, getO_some, ixO_some, putO_some, List.getElem?_cons_zero, List.getElem?_cons_succ, List.set_cons_zero, List.set_cons_succ, List.length_cons, List.length_nil, Nat.reduceAdd, Nat.reduceLT, ne_eq, not_false_eq_true, and_self, true_and, and_true]
      rfl
    · show ∃ c, evalE T _ [some (.d, .int b), some (.d, .str (Str.ofString "ranks")), some (.d, .tuple (ofInts ns)), some (.d, .list (ofTups (LL b))), some (.d, .tuple (ofInts o)), none] = R.ok (_, [some (.d, .int b), some (.d, .str (Str.ofString "ranks")), some (.d, .tuple (ofInts ns)), some (.d, .list (ofTups (LL b))), some (.d, .tuple (ofInts o)), none])
      have c2 : ¬ ((2 : Int) = 0) := by decide
      obtain ⟨hne, hin⟩ := inB_ok b h1 h5 o ho
      have I := comp_ints (T := T) (ρ := [some (.d, .int b), some (.d, .str (Str.ofString "ranks")), some (.d, .tuple (ofInts ns)), some (.d, .list (ofTups (LL b))), some (.d, .tuple (ofInts o)), none]) (ρ1 := [some (.d, .int b), some (.d, .str (Str.ofString "ranks")), some (.d, .tuple (ofInts ns)), some (.d, .list (ofTups (LL b))), some (.d, .tuple (ofInts o)), none]) (elt := .op .ix [.var 2, .var 5]) (cond := .bl true) (v := 5) (it := .e (.var 4)) (cs := o) (p := fun _ => true) (g := fun c => (ns[c.toNat]?).getD 0) rfl rfl rfl (by show 5 < 6; decide) (fun _ _ => rfl) fun c hc _ => by
        obtain ⟨c0, c1⟩ := hin c hc
        refine ⟨.d, ?_⟩
        have hat : atI (ofInts ns) c = some (.int ((ns[c.toNat]?).getD 0)) := by
          have hl : c.toNat < ns.length := by omega
          unfold atI ixN
          rw [if_pos c0, if_pos (by rw [ofInts_len, hns]; exact c1)]
          show (ofInts ns)[c.toNat]? = _
          unfold ofInts
          rw [List.getElem?_map, List.getElem?_eq_getElem hl]
          rfl
        show evalE T _ [some (.d, .int b), some (.d, .str (Str.ofString "ranks")), some (.d, .tuple (ofInts ns)), some (.d, .list (ofTups (LL b))), some (.d, .tuple (ofInts o)), some (.d, .int c)] = R.ok (_, [some (.d, .int b), some (.d, .str (Str.ofString "ranks")), some (.d, .tuple (ofInts ns)), some (.d, .list (ofTups (LL b))), some (.d, .tuple (ofInts o)), some (.d, .int c)])
        simp -dsimp -implicitDefEqProofs only [ex_nil, ex_cons, then_nx, then_rt, then_ct, then_bk, ex_asg, ex_asgT, ex_par, ex_ret, ex_retMv, ex_ite, ex_brk, ex_cont, ev_var, ev_int, ev_bl, ev_non, ev_str, ev_dct, ev_tup, ev_lst, ev_op, ev_call, ev_and, ev_or, ev_not, ev_ifx, evs_nil, evs_cons, esv_nil, esv_cons, eas_nil, eas_var, eas_op, eas_int, eas_bl, eas_non, eas_str, eas_tup, eas_lst, eas_dct, eas_call, eas_and, eas_or, eas_not, eas_ifx, eas_comp, eas_slc, ex_put, putIn_l, ixN0, ixN1, fill_nil, fill_inl, fill_inr, asB_ok, bnd_ok, bnd_no, iff_t, iff_f, op_add, op_sub, op_neg, op_mul, op_fdiv, op_mod, op_gt, op_ge, op_lt, op_le, op_int, op_abs, op_min2, op_max2, op_lenL, op_lenS, op_lenD, op_lenT, op_tupL, op_tupD, op_ixL, op_ixD, op_ixS, op_ixT, atI0, atI1, setS_in, readV_eq, readO_d, readO_l, get_eq, getO_some, ixO_some, putO_some, List.getElem?_cons_zero, List.getElem?_cons_succ, List.set_cons_zero, List.set_cons_succ, List.length_cons, List.length_nil, Nat.reduceAdd, Nat.reduceLT, ne_eq, not_false_eq_true, and_self, true_and, and_true, hat]
      rw [List.filter_eq_self.mpr fun _ _ => rfl] at I
      obtain ⟨o1, os, rfl⟩ : ∃ o1 os, o = o1 :: os := by
        cases o with
        | nil => exact absurd rfl hne
        | cons a as => exact ⟨a, as, rfl⟩
      rw [List.map_cons] at I
      refine ⟨decide ((minI (os.map fun c => (ns[c.toNat]?).getD 0) ((ns[o1.toNat]?).getD 0)).fmod 2 = 0), ?_⟩
      simp -dsimp -implicitDefEqProofs only [ex_nil, ex_cons, then_nx, then_rt, then_ct, then_bk, ex_asg, ex_asgT, ex_par, ex_ret, ex_retMv, ex_ite, ex_brk, ex_cont, ev_var, ev_int, ev_bl, ev_non, ev_str, ev_dct, ev_tup, ev_lst, ev_op, ev_call, ev_and, ev_or, ev_not, ev_ifx, evs_nil, evs_cons, esv_nil, esv_cons, eas_nil, eas_var, eas_op, eas_int, eas_bl, eas_non, eas_str, eas_tup, eas_lst, eas_dct, eas_call, eas_and, eas_or, eas_not, eas_ifx, eas_comp, eas_slc, ex_put, putIn_l, ixN0, ixN1, fill_nil, fill_inl, fill_inr, asB_ok, bnd_ok, bnd_no, iff_t, iff_f, op_add, op_sub, op_neg, op_mul, op_fdiv, op_mod, op_gt, op_ge, op_lt, op_le, op_int, op_abs, op_min2, op_max2, op_lenL, op_lenS, op_lenD, op_lenT, op_tupL, op_tupD, op_ixL, op_ixD, op_ixS, op_ixT, atI0, atI1, setS_in, readV_eq, readO_d, readO_l, get_eq, getO_some, ixO_some, putO_some, List.getElem?_cons_zero, List.getElem?_cons_succ, List.set_cons_zero, List.set_cons_succ, List.length_cons, List.length_nil, Nat.reduceAdd, Nat.reduceLT, ne_eq, not_false_eq_true, and_self, true_and, and_true, I, op_minLI, c2, op_eqI]
  refine ⟨us, run_rt (ρ := [some (.d, .int b), some (.d, .str (Str.ofString "ranks")), some (.d, .tuple (ofInts ns)), some (.d, .list (ofTups (LL b))), none, none]) ⟨rfl, by decide, rfl⟩ ?_ rfl⟩
  show execSs T p52_law_by.body [some (.d, .int b), some (.d, .str (Str.ofString "ranks")), some (.d, .tuple (ofInts ns)), none, none, none] = _
  unfold p52_law_by cond
  simp -dsimp -implicitDefEqProofs only [ex_nil, ex_cons, then_nx, then_rt, then_ct, then_bk, ex_asg, ex_asgT, ex_par, ex_ret, ex_retMv, ex_ite, ex_brk, ex_cont, ev_var, ev_int, ev_bl, ev_non, ev_str, ev_dct, ev_tup, ev_lst, ev_op, ev_call, ev_and, ev_or, ev_not, ev_ifx, evs_nil, evs_cons, esv_nil, esv_cons, eas_nil, eas_var, eas_op, eas_int, eas_bl, eas_non, eas_str, eas_tup, eas_lst, eas_dct, eas_call, eas_and, eas_or, eas_not, eas_ifx, eas_comp, eas_slc, ex_put, putIn_l, ixN0, ixN1, fill_nil, fill_inl, fill_inr, asB_ok, bnd_ok, bnd_no, iff_t, iff_f, op_add, op_sub, op_neg, op_mul, op_fdiv, op_mod, op_gt, op_ge, op_lt, op_le, op_int, op_abs, op_min2, op_max2, op_lenL, op_lenS, op_lenD, op_lenT, op_tupL, op_tupD, op_ixL, op_ixD, op_ixS, op_ixT, atI0, atI1, setS_in, readV_eq, readO_d, readO_l, get_eq, getO_some, ixO_some, putO_some, List.getElem?_cons_zero, List.getElem?_cons_succ, List.set_cons_zero, List.set_cons_succ, List.length_cons, List.length_nil, Nat.reduceAdd, Nat.reduceLT, ne_eq, not_false_eq_true, and_self, true_and, and_true, own_d, own_n, nd_nil, pb_d, pb_n, noS_l, hl, s_ranks_all, s_ranks_some, s_ranks_ranks, s_ranks_pairs, s_ranks_many, s_ranks_even, C, op_tupD]
theorem by_pairs (T : Tbl) (hl : LotsOk T) (hg : GivenOk T) (b : Nat) (h1 : 1 ≤ b) (h5 : b ≤ 5) (n : Nat) (hn : n ≤ 5) : ∃ us, runDef T p52_law_by [(.d, .int b), (.d, .str (Str.ofString "pairs")), (.d, .int n)] = .ok ((.d, cond b us), [(.d, .int b), (.d, .str (Str.ofString "pairs")), (.d, .int n)]) := by
  have hl := hl b h1 h5
  obtain ⟨us, C⟩ : ∃ us, evalE T (.comp (.var 4) [4] (.var 4) (.e (.var 3)) (.call 17 [.var 4, .var 2])) [some (.d, .int b), some (.d, .str (Str.ofString "pairs")), some (.d, .int n), some (.l .d, .list (ofTups (LL b))), none, none] = .ok ((.l .d, .list (ofTups us)), [some (.d, .int b), some (.d, .str (Str.ofString "pairs")), some (.d, .int n), some (.d, .list (ofTups (LL b))), none, none]) := by
    refine comp_tupsE (ts := LL b) (ρ1 := [some (.d, .int b), some (.d, .str (Str.ofString "pairs")), some (.d, .int n), some (.d, .list (ofTups (LL b))), none, none]) ?_ rfl rfl (by show 4 < 6; decide) fun o ho => ?_
    · rw [ei_e]
      simp -dsimp -implicitDefEqProofs only [ex_nil, ex_cons, then_nx, then_rt, then_ct, then_bk, ex_asg, ex_asgT, ex_par, ex_ret, ex_retMv, ex_ite, ex_brk, ex_cont, ev_var, ev_int, ev_bl, ev_non, ev_str, ev_dct, ev_tup, ev_lst, ev_op, ev_call, ev_and, ev_or, ev_not, ev_ifx, evs_nil, evs_cons, esv_nil, esv_cons, eas_nil, eas_var, eas_op, eas_int, eas_bl, eas_non, eas_str, eas_tup, eas_lst, eas_dct, eas_call, eas_and, eas_or, eas_not, eas_ifx, eas_comp, eas_slc, ex_put, putIn_l, ixN0, ixN1, fill_nil, fill_inl, fill_inr, asB_ok, bnd_ok, bnd_no, iff_t, iff_f, op_add, op_sub, op_neg, op_mul, op_fdiv, op_mod, op_gt, op_ge, op_lt, op_le, op_int, op_abs, op_min2, op_max2, op_lenL, op_lenS, op_lenD, op_lenT, op_tupL, op_tupD, op_ixL, op_ixD, op_ixS, op_ixT, atI0, atI1, setS_in, readV_eq, readO_d, readO_l, get_eq, getO_some, ixO_some, putO_some, List.getElem?_cons_zero, List.getElem?_cons_succ, List.set_cons_zero, List.set_cons_succ, List.length_cons, List.length_nil, Nat.reduceAdd, Nat.reduceLT, ne_eq, not_false_eq_true, and_self, true_and, and_true]
      rfl
    · show ∃ c, evalE T _ [some (.d, .int b), some (.d, .str (Str.ofString "pairs")), some (.d, .int n), some (.d, .list (ofTups (LL b))), some (.d, .tuple (ofInts o)), none] = R.ok (_, [some (.d, .int b), some (.d, .str (Str.ofString "pairs")), some (.d, .int n), some (.d, .list (ofTups (LL b))), some (.d, .tuple (ofInts o)), none])
      obtain ⟨c, hg⟩ := hg o n hn
      exact ⟨c, by simp -dsimp -implicitDefEqProofs only [ex_nil, ex_cons, then_nx, then_rt, then_ct, then_bk, ex_asg, ex_asgT, ex_par, ex_ret, ex_retMv, ex_ite, ex_brk, ex_cont, ev_var, ev_int, ev_bl, ev_non, ev_str, ev_dct, ev_tup, ev_lst, ev_op, ev_call, ev_and, ev_or, ev_not, ev_ifx, evs_nil, evs_cons, esv_nil, esv_cons, eas_nil, eas_var, eas_op, eas_int, eas_bl, eas_non, eas_str, eas_tup, eas_lst, eas_dct, eas_call, eas_and, eas_or, eas_not, eas_ifx, eas_comp, eas_slc, ex_put, putIn_l, ixN0, ixN1, fill_nil, fill_inl, fill_inr, asB_ok, bnd_ok, bnd_no, iff_t, iff_f, op_add, op_sub, op_neg, op_mul, op_fdiv, op_mod, op_gt, op_ge, op_lt, op_le, op_int, op_abs, op_min2, op_max2, op_lenL, op_lenS, op_lenD, op_lenT, op_tupL, op_tupD, op_ixL, op_ixD, op_ixS, op_ixT, atI0, atI1, setS_in, readV_eq, readO_d, readO_l, get_eq, getO_some, ixO_some, putO_some, List.getElem?_cons_zero, List.getElem?_cons_succ, List.set_cons_zero, List.set_cons_succ, List.length_cons, List.length_nil, Nat.reduceAdd, Nat.reduceLT, ne_eq, not_false_eq_true, and_self, true_and, and_true, own_d, own_n, nd_nil, pb_d, pb_n, noS_d, hg]⟩
  refine ⟨us, run_rt (ρ := [some (.d, .int b), some (.d, .str (Str.ofString "pairs")), some (.d, .int n), some (.d, .list (ofTups (LL b))), none, none]) ⟨rfl, by decide, rfl⟩ ?_ rfl⟩
  show execSs T p52_law_by.body [some (.d, .int b), some (.d, .str (Str.ofString "pairs")), some (.d, .int n), none, none, none] = _
  unfold p52_law_by cond
  simp -dsimp -implicitDefEqProofs only [ex_nil, ex_cons, then_nx, then_rt, then_ct, then_bk, ex_asg, ex_asgT, ex_par, ex_ret, ex_retMv, ex_ite, ex_brk, ex_cont, ev_var, ev_int, ev_bl, ev_non, ev_str, ev_dct, ev_tup, ev_lst, ev_op, ev_call, ev_and, ev_or, ev_not, ev_ifx, evs_nil, evs_cons, esv_nil, esv_cons, eas_nil, eas_var, eas_op, eas_int, eas_bl, eas_non, eas_str, eas_tup, eas_lst, eas_dct, eas_call, eas_and, eas_or, eas_not, eas_ifx, eas_comp, eas_slc, ex_put, putIn_l, ixN0, ixN1, fill_nil, fill_inl, fill_inr, asB_ok, bnd_ok, bnd_no, iff_t, iff_f, op_add, op_sub, op_neg, op_mul, op_fdiv, op_mod, op_gt, op_ge, op_lt, op_le, op_int, op_abs, op_min2, op_max2, op_lenL, op_lenS, op_lenD, op_lenT, op_tupL, op_tupD, op_ixL, op_ixD, op_ixS, op_ixT, atI0, atI1, setS_in, readV_eq, readO_d, readO_l, get_eq, getO_some, ixO_some, putO_some, List.getElem?_cons_zero, List.getElem?_cons_succ, List.set_cons_zero, List.set_cons_succ, List.length_cons, List.length_nil, Nat.reduceAdd, Nat.reduceLT, ne_eq, not_false_eq_true, and_self, true_and, and_true, own_d, own_n, nd_nil, pb_d, pb_n, noS_l, hl, s_pairs_all, s_pairs_some, s_pairs_ranks, s_pairs_pairs, s_pairs_many, s_pairs_even, C, op_tupD]
theorem by_just (T : Tbl) (hl : LotsOk T) (b : Nat) (h1 : 1 ≤ b) (h5 : b ≤ 5) (i : Int) : ∃ us, runDef T p52_law_by [(.d, .int b), (.d, .str (Str.ofString "just")), (.d, .int i)] = .ok ((.d, cond b us), [(.d, .int b), (.d, .str (Str.ofString "just")), (.d, .int i)]) := by
  have hl := hl b h1 h5
  obtain ⟨us, C⟩ : ∃ us, evalE T (.comp (.var 4) [4] (.var 4) (.e (.var 3)) (.op .eq [.op .len [.var 4], .var 2])) [some (.d, .int b), some (.d, .str (Str.ofString "just")), some (.d, .int i), some (.l .d, .list (ofTups (LL b))), none, none] = .ok ((.l .d, .list (ofTups us)), [some (.d, .int b), some (.d, .str (Str.ofString "just")), some (.d, .int i), some (.d, .list (ofTups (LL b))), none, none]) := by
    refine comp_tupsE (ts := LL b) (ρ1 := [some (.d, .int b), some (.d, .str (Str.ofString "just")), some (.d, .int i), some (.d, .list (ofTups (LL b))), none, none]) ?_ rfl rfl (by show 4 < 6; decide) fun o ho => ?_
    · rw [ei_e]
      simp -dsimp -implicitDefEqProofs only [ex_nil, ex_cons, then_nx, then_rt, then_ct, then_bk, ex_asg, ex_asgT, ex_par, ex_ret, ex_retMv, ex_ite, ex_brk, ex_cont, ev_var, ev_int, ev_bl, ev_non, ev_str, ev_dct, ev_tup, ev_lst, ev_op, ev_call, ev_and, ev_or, ev_not, ev_ifx, evs_nil, evs_cons, esv_nil, esv_cons, eas_nil, eas_var, eas_op, eas_int, eas_bl, eas_non, eas_str, eas_tup, eas_lst, eas_dct, eas_call, eas_and, eas_or, eas_not, eas_ifx, eas_comp, eas_slc, ex_put, putIn_l, ixN0, ixN1, fill_nil, fill_inl, fill_inr, asB_ok, bnd_ok, bnd_no, iff_t, iff_f, op_add, op_sub, op_neg, op_mul, op_fdiv, op_mod, op_gt, op_ge, op_lt, op_le, op_int, op_abs, op_min2, op_max2, op_lenL, op_lenS, op_lenD, op_lenT, op_tupL, op_tupD, op_ixL, op_ixD, op_ixS, op_ixT, atI0, atI1, setS_in, readV_eq, readO_d, readO_l, get_eq, getO_some, ixO_some, putO_some, List.getElem?_cons_zero, List.getElem?_cons_succ, List.set_cons_zero, List.set_cons_succ, List.length_cons, List.length_nil, Nat.reduceAdd, Nat.reduceLT, ne_eq, not_false_eq_true, and_self, true_and, and_true]
      rfl
    · show ∃ c, evalE T _ [some (.d, .int b), some (.d, .str (Str.ofString "just")), some (.d, .int i), some (.d, .list (ofTups (LL b))), some (.d, .tuple (ofInts o)), none] = R.ok (_, [some (.d, .int b), some (.d, .str (Str.ofString "just")), some (.d, .int i), some (.d, .list (ofTups (LL b))), some (.d, .tuple (ofInts o)), none])
      exact ⟨decide (((ofInts o).length : Int) = i), by simp -dsimp -implicitDefEqProofs only [ex_nil, ex_cons, then_nx, then_rt, then_ct, then_bk, ex_asg, ex_asgT, ex_par, ex_ret, ex_retMv, ex_ite, ex_brk, ex_cont, ev_var, ev_int, ev_bl, ev_non, ev_str, ev_dct, ev_tup, ev_lst, ev_op, ev_call, ev_and, ev_or, ev_not, ev_ifx, evs_nil, evs_cons, esv_nil, esv_cons, eas_nil, eas_var, eas_op, eas_int, eas_bl, eas_non, eas_str, eas_tup, eas_lst, eas_dct, eas_call, eas_and, eas_or, eas_not, eas_ifx, eas_comp, eas_slc, ex_put, putIn_l, ixN0, ixN1, fill_nil, fill_inl, fill_inr, asB_ok, bnd_ok, bnd_no, iff_t, iff_f, op_add, op_sub, op_neg, op_mul, op_fdiv, op_mod, op_gt, op_ge, op_lt, op_le, op_int, op_abs, op_min2, op_max2, op_lenL, op_lenS, op_lenD, op_lenT, op_tupL, op_tupD, op_ixL, op_ixD, op_ixS, op_ixT, atI0, atI1, setS_in, readV_eq, readO_d, readO_l, get_eq, getO_some, ixO_some, putO_some, List.getElem?_cons_zero, List.getElem?_cons_succ, List.set_cons_zero, List.set_cons_succ, List.length_cons, List.length_nil, Nat.reduceAdd, Nat.reduceLT, ne_eq, not_false_eq_true, and_self, true_and, and_true, op_eqI]⟩
  refine ⟨us, run_rt (ρ := [some (.d, .int b), some (.d, .str (Str.ofString "just")), some (.d, .int i), some (.d, .list (ofTups (LL b))), none, none]) ⟨rfl, by decide, rfl⟩ ?_ rfl⟩
  show execSs T p52_law_by.body [some (.d, .int b), some (.d, .str (Str.ofString "just")), some (.d, .int i), none, none, none] = _
  unfold p52_law_by cond
  simp -dsimp -implicitDefEqProofs only [ex_nil, ex_cons, then_nx, then_rt, then_ct, then_bk, ex_asg, ex_asgT, ex_par, ex_ret, ex_retMv, ex_ite, ex_brk, ex_cont, ev_var, ev_int, ev_bl, ev_non, ev_str, ev_dct, ev_tup, ev_lst, ev_op, ev_call, ev_and, ev_or, ev_not, ev_ifx, evs_nil, evs_cons, esv_nil, esv_cons, eas_nil, eas_var, eas_op, eas_int, eas_bl, eas_non, eas_str, eas_tup, eas_lst, eas_dct, eas_call, eas_and, eas_or, eas_not, eas_ifx, eas_comp, eas_slc, ex_put, putIn_l, ixN0, ixN1, fill_nil, fill_inl, fill_inr, asB_ok, bnd_ok, bnd_no, iff_t, iff_f, op_add, op_sub, op_neg, op_mul, op_fdiv, op_mod, op_gt, op_ge, op_lt, op_le, op_int, op_abs, op_min2, op_max2, op_lenL, op_lenS, op_lenD, op_lenT, op_tupL, op_tupD, op_ixL, op_ixD, op_ixS, op_ixT, atI0, atI1, setS_in, readV_eq, readO_d, readO_l, get_eq, getO_some, ixO_some, putO_some, List.getElem?_cons_zero, List.getElem?_cons_succ, List.set_cons_zero, List.set_cons_succ, List.length_cons, List.length_nil, Nat.reduceAdd, Nat.reduceLT, ne_eq, not_false_eq_true, and_self, true_and, and_true, own_d, own_n, nd_nil, pb_d, pb_n, noS_l, hl, s_just_all, s_just_some, s_just_ranks, s_just_pairs, s_just_many, s_just_even, C, op_tupD]
theorem by_many (T : Tbl) (hl : LotsOk T) (b : Nat) (h1 : 1 ≤ b) (h5 : b ≤ 5) (i : Int) : ∃ us, runDef T p52_law_by [(.d, .int b), (.d, .str (Str.ofString "many")), (.d, .int i)] = .ok ((.d, cond b us), [(.d, .int b), (.d, .str (Str.ofString "many")), (.d, .int i)]) := by
  have hl := hl b h1 h5
  obtain ⟨us, C⟩ : ∃ us, evalE T (.comp (.var 4) [4] (.var 4) (.e (.var 3)) (.op .ge [.op .len [.var 4], .var 2])) [some (.d, .int b), some (.d, .str (Str.ofString "many")), some (.d, .int i), some (.l .d, .list (ofTups (LL b))), none, none] = .ok ((.l .d, .list (ofTups us)), [some (.d, .int b), some (.d, .str (Str.ofString "many")), some (.d, .int i), some (.d, .list (ofTups (LL b))), none, none]) := by
    refine comp_tupsE (ts := LL b) (ρ1 := [some (.d, .int b), some (.d, .str (Str.ofString "many")), some (.d, .int i), some (.d, .list (ofTups (LL b))), none, none]) ?_ rfl rfl (by show 4 < 6; decide) fun o ho => ?_
    · rw [ei_e]
      simp -dsimp -implicitDefEqProofs only [ex_nil, ex_cons, then_nx, then_rt, then_ct, then_bk, ex_asg, ex_asgT, ex_par, ex_ret, ex_retMv, ex_ite, ex_brk, ex_cont, ev_var, ev_int, ev_bl, ev_non, ev_str, ev_dct, ev_tup, ev_lst, ev_op, ev_call, ev_and, ev_or, ev_not, ev_ifx, evs_nil, evs_cons, esv_nil, esv_cons, eas_nil, eas_var, eas_op, eas_int, eas_bl, eas_non, eas_str, eas_tup, eas_lst, eas_dct, eas_call, eas_and, eas_or, eas_not, eas_ifx, eas_comp, eas_slc, ex_put, putIn_l, ixN0, ixN1, fill_nil, fill_inl, fill_inr, asB_ok, bnd_ok, bnd_no, iff_t, iff_f, op_add, op_sub, op_neg, op_mul, op_fdiv, op_mod, op_gt, op_ge, op_lt, op_le, op_int, op_abs, op_min2, op_max2, op_lenL, op_lenS, op_lenD, op_lenT, op_tupL, op_tupD, op_ixL, op_ixD, op_ixS, op_ixT, atI0, atI1, setS_in, readV_eq, readO_d, readO_l, get_eq, getO_some, ixO_some, putO_some, List.getElem?_cons_zero, List.getElem?_cons_succ, List.set_cons_zero, List.set_cons_succ, List.length_cons, List.length_nil, Nat.reduceAdd, Nat.reduceLT, ne_eq, not_false_eq_true, and_self, true_and, and_true]
      rfl
    · show ∃ c, evalE T _ [some (.d, .int b), some (.d, .str (Str.ofString "many")), some (.d, .int i), some (.d, .list (ofTups (LL b))), some (.d, .tuple (ofInts o)), none] = R.ok (_, [some (.d, .int b), some (.d, .str (Str.ofString "many")), some (.d, .int i), some (.d, .list (ofTups (LL b))), some (.d, .tuple (ofInts o)), none])
      exact ⟨decide (i ≤ ((ofInts o).length : Int)), by simp -dsimp -implicitDefEqProofs only [ex_nil, ex_cons, then_nx, then_rt, then_ct, then_bk, ex_asg, ex_asgT, ex_par, ex_ret, ex_retMv, ex_ite, ex_brk, ex_cont, ev_var, ev_int, ev_bl, ev_non, ev_str, ev_dct, ev_tup, ev_lst, ev_op, ev_call, ev_and, ev_or, ev_not, ev_ifx, evs_nil, evs_cons, esv_nil, esv_cons, eas_nil, eas_var, eas_op, eas_int, eas_bl, eas_non, eas_str, eas_tup, eas_lst, eas_dct, eas_call, eas_and, eas_or, eas_not, eas_ifx, eas_comp, eas_slc, ex_put, putIn_l, ixN0, ixN1, fill_nil, fill_inl, fill_inr, asB_ok, bnd_ok, bnd_no, iff_t, iff_f, op_add, op_sub, op_neg, op_mul, op_fdiv, op_mod, op_gt, op_ge, op_lt, op_le, op_int, op_abs, op_min2, op_max2, op_lenL, op_lenS, op_lenD, op_lenT, op_tupL, op_tupD, op_ixL, op_ixD, op_ixS, op_ixT, atI0, atI1, setS_in, readV_eq, readO_d, readO_l, get_eq, getO_some, ixO_some, putO_some, List.getElem?_cons_zero, List.getElem?_cons_succ, List.set_cons_zero, List.set_cons_succ, List.length_cons, List.length_nil, Nat.reduceAdd, Nat.reduceLT, ne_eq, not_false_eq_true, and_self, true_and, and_true]⟩
  refine ⟨us, run_rt (ρ := [some (.d, .int b), some (.d, .str (Str.ofString "many")), some (.d, .int i), some (.d, .list (ofTups (LL b))), none, none]) ⟨rfl, by decide, rfl⟩ ?_ rfl⟩
  show execSs T p52_law_by.body [some (.d, .int b), some (.d, .str (Str.ofString "many")), some (.d, .int i), none, none, none] = _
  unfold p52_law_by cond
  simp -dsimp -implicitDefEqProofs only [ex_nil, ex_cons, then_nx, then_rt, then_ct, then_bk, ex_asg, ex_asgT, ex_par, ex_ret, ex_retMv, ex_ite, ex_brk, ex_cont, ev_var, ev_int, ev_bl, ev_non, ev_str, ev_dct, ev_tup, ev_lst, ev_op, ev_call, ev_and, ev_or, ev_not, ev_ifx, evs_nil, evs_cons, esv_nil, esv_cons, eas_nil, eas_var, eas_op, eas_int, eas_bl, eas_non, eas_str, eas_tup, eas_lst, eas_dct, eas_call, eas_and, eas_or, eas_not, eas_ifx, eas_comp, eas_slc, ex_put, putIn_l, ixN0, ixN1, fill_nil, fill_inl, fill_inr, asB_ok, bnd_ok, bnd_no, iff_t, iff_f, op_add, op_sub, op_neg, op_mul, op_fdiv, op_mod, op_gt, op_ge, op_lt, op_le, op_int, op_abs, op_min2, op_max2, op_lenL, op_lenS, op_lenD, op_lenT, op_tupL, op_tupD, op_ixL, op_ixD, op_ixS, op_ixT, atI0, atI1, setS_in, readV_eq, readO_d, readO_l, get_eq, getO_some, ixO_some, putO_some, List.getElem?_cons_zero, List.getElem?_cons_succ, List.set_cons_zero, List.set_cons_succ, List.length_cons, List.length_nil, Nat.reduceAdd, Nat.reduceLT, ne_eq, not_false_eq_true, and_self, true_and, and_true, own_d, own_n, nd_nil, pb_d, pb_n, noS_l, hl, s_many_all, s_many_some, s_many_ranks, s_many_pairs, s_many_many, s_many_even, C, op_tupD]
theorem by_even (T : Tbl) (hl : LotsOk T) (b : Nat) (h1 : 1 ≤ b) (h5 : b ≤ 5) (i : Int) : ∃ us, runDef T p52_law_by [(.d, .int b), (.d, .str (Str.ofString "even")), (.d, .int i)] = .ok ((.d, cond b us), [(.d, .int b), (.d, .str (Str.ofString "even")), (.d, .int i)]) := by
  have hl := hl b h1 h5
  obtain ⟨us, C⟩ : ∃ us, evalE T (.comp (.var 4) [4] (.var 4) (.e (.var 3)) (.op .eq [.op .mod [.op .int [.op .len [.var 4]], .int 2], .var 2])) [some (.d, .int b), some (.d, .str (Str.ofString "even")), some (.d, .int i), some (.l .d, .list (ofTups (LL b))), none, none] = .ok ((.l .d, .list (ofTups us)), [some (.d, .int b), some (.d, .str (Str.ofString "even")), some (.d, .int i), some (.d, .list (ofTups (LL b))), none, none]) := by
    refine comp_tupsE (ts := LL b) (ρ1 := [some (.d, .int b), some (.d, .str (Str.ofString "even")), some (.d, .int i), some (.d, .list (ofTups (LL b))), none, none]) ?_ rfl rfl (by show 4 < 6; decide) fun o ho => ?_
    · rw [ei_e]
      simp -dsimp -implicitDefEqProofs only [ex_nil, ex_cons, then_nx, then_rt, then_ct, then_bk, ex_asg, ex_asgT, ex_par, ex_ret, ex_retMv, ex_ite, ex_brk, ex_cont, ev_var, ev_int, ev_bl, ev_non, ev_str, ev_dct, ev_tup, ev_lst, ev_op, ev_call, ev_and, ev_or, ev_not, ev_ifx, evs_nil, evs_cons, esv_nil, esv_cons, eas_nil, eas_var, eas_op, eas_int, eas_bl, eas_non, eas_str, eas_tup, eas_lst, eas_dct, eas_call, eas_and, eas_or, eas_not, eas_ifx, eas_comp, eas_slc, ex_put, putIn_l, ixN0, ixN1, fill_nil, fill_inl, fill_inr, asB_ok, bnd_ok, bnd_no, iff_t, iff_f, op_add, op_sub, op_neg, op_mul, op_fdiv, op_mod, op_gt, op_ge, op_lt, op_le, op_int, op_abs, op_min2, op_max2, op_lenL, op_lenS, op_lenD, op_lenT, op_tupL, op_tupD, op_ixL, op_ixD, op_ixS, op_ixT, atI0, atI1, setS_in, readV_eq, readO_d, readO_l, get_eq, getO_some, ixO_some, putO_some, List.getElem?_cons_zero, List.getElem?_cons_succ, List.set_cons_zero, List.set_cons_succ, List.length_cons, List.length_nil, Nat.reduceAdd, Nat.reduceLT, ne_eq, not_false_eq_true, and_self, true_and, and_true]
      rfl
    · show ∃ c, evalE T _ [some (.d, .int b), some (.d, .str (Str.ofString "even")), some (.d, .int i), some (.d, .list (ofTups (LL b))), some (.d, .tuple (ofInts o)), none] = R.ok (_, [some (.d, .int b), some (.d, .str (Str.ofString "even")), some (.d, .int i), some (.d, .list (ofTups (LL b))), some (.d, .tuple (ofInts o)), none])
      have c2 : ¬ ((2 : Int) = 0) := by decide
      exact ⟨decide ((((ofInts o).length : Int)).fmod 2 = i), by simp -dsimp -implicitDefEqProofs only [ex_nil, ex_cons, then_nx, then_rt, then_ct, then_bk, ex_asg, ex_asgT, ex_par, ex_ret, ex_retMv, ex_ite, ex_brk, ex_cont, ev_var, ev_int, ev_bl, ev_non, ev_str, ev_dct, ev_tup, ev_lst, ev_op, ev_call, ev_and, ev_or, ev_not, ev_ifx, evs_nil, evs_cons, esv_nil, esv_cons, eas_nil, eas_var, eas_op, eas_int, eas_bl, eas_non, eas_str, eas_tup, eas_lst, eas_dct, eas_call, eas_and, eas_or, eas_not, eas_ifx, eas_comp, eas_slc, ex_put, putIn_l, ixN0, ixN1, fill_nil, fill_inl, fill_inr, asB_ok, bnd_ok, bnd_no, iff_t, iff_f, op_add, op_sub, op_neg, op_mul, op_fdiv, op_mod, op_gt, op_ge, op_lt, op_le, op_int, op_abs, op_min2, op_max2, op_lenL, op_lenS, op_lenD, op_lenT, op_tupL, op_tupD, op_ixL, op_ixD, op_ixS, op_ixT, atI0, atI1, setS_in, readV_eq, readO_d, readO_l, get_eq, getO_some, ixO_some, putO_some, List.getElem?_cons_zero, List.getElem?_cons_succ, List.set_cons_zero, List.set_cons_succ, List.length_cons, List.length_nil, Nat.reduceAdd, Nat.reduceLT, ne_eq, not_false_eq_true, and_self, true_and, and_true, op_eqI, c2]⟩
  refine ⟨us, run_rt (ρ := [some (.d, .int b), some (.d, .str (Str.ofString "even")), some (.d, .int i), some (.d, .list (ofTups (LL b))), none, none]) ⟨rfl, by decide, rfl⟩ ?_ rfl⟩
  show execSs T p52_law_by.body [some (.d, .int b), some (.d, .str (Str.ofString "even")), some (.d, .int i), none, none, none] = _
  unfold p52_law_by cond
  simp -dsimp -implicitDefEqProofs only [ex_nil, ex_cons, then_nx, then_rt, then_ct, then_bk, ex_asg, ex_asgT, ex_par, ex_ret, ex_retMv, ex_ite, ex_brk, ex_cont, ev_var, ev_int, ev_bl, ev_non, ev_str, ev_dct, ev_tup, ev_lst, ev_op, ev_call, ev_and, ev_or, ev_not, ev_ifx, evs_nil, evs_cons, esv_nil, esv_cons, eas_nil, eas_var, eas_op, eas_int, eas_bl, eas_non, eas_str, eas_tup, eas_lst, eas_dct, eas_call, eas_and, eas_or, eas_not, eas_ifx, eas_comp, eas_slc, ex_put, putIn_l, ixN0, ixN1, fill_nil, fill_inl, fill_inr, asB_ok, bnd_ok, bnd_no, iff_t, iff_f, op_add, op_sub, op_neg, op_mul, op_fdiv, op_mod, op_gt, op_ge, op_lt, op_le, op_int, op_abs, op_min2, op_max2, op_lenL, op_lenS, op_lenD, op_lenT, op_tupL, op_tupD, op_ixL, op_ixD, op_ixS, op_ixT, atI0, atI1, setS_in, readV_eq, readO_d, readO_l, get_eq, getO_some, ixO_some, putO_some, List.getElem?_cons_zero, List.getElem?_cons_succ, List.set_cons_zero, List.set_cons_succ, List.length_cons, List.length_nil, Nat.reduceAdd, Nat.reduceLT, ne_eq, not_false_eq_true, and_self, true_and, and_true, own_d, own_n, nd_nil, pb_d, pb_n, noS_l, hl, s_even_all, s_even_some, s_even_ranks, s_even_pairs, s_even_many, s_even_even, C, op_tupD]
theorem by_run (T : Tbl) (hl : LotsOk T) (hg : GivenOk T) (b : Nat) (h1 : 1 ≤ b) (h5 : b ≤ 5) (K : Str) (w : D) (h : KW b K w) : ∃ us, runDef T p52_law_by [(.d, .int b), (.d, .str K), (.d, w)] = .ok ((.d, cond b us), [(.d, .int b), (.d, .str K), (.d, w)]) := by
  cases h with
  | all => exact by_all T hl b h1 h5 _
  | some => exact by_some T hl b h1 h5 _
  | ranks h => exact by_ranks T hl b h1 h5 _ h
  | pairs h => exact by_pairs T hl hg b h1 h5 _ h
  | just => exact by_just T hl b h1 h5 _
  | many => exact by_many T hl b h1 h5 _
  | even => exact by_even T hl b h1 h5 _
def ByOk (T : Tbl) : Prop := ∀ (b : Nat), 1 ≤ b → b ≤ 5 → ∀ (K : Str) (w : D), KW b K w → ∃ us, T.f 52 [(.d, .int b), (.d, .str K), (.d, w)] = .ok ((.d, cond b us), [(.d, .int b), (.d, .str K), (.d, w)])
end K02
end PL
end

section
set_option Elab.async false
set_option linter.all false
set_option maxRecDepth 100000
set_option autoImplicit false
/-! PL02f: drawn conditions. -/
namespace PL
open PySem
namespace K02
def kindsD : List D := [.str (Str.ofString "all"), .str (Str.ofString "some"), .str (Str.ofString "ranks"), .str (Str.ofString "pairs"), .str (Str.ofString "just"), .str (Str.ofString "many"), .str (Str.ofString "even")]
def ne1 : Bool := (LL 1).isEmpty
theorem LL_ne (b : Nat) (h1 : 1 ≤ b) (h5 : b ≤ 5) : LL b ≠ [] := by
  intro e
  have A : (LL b).isEmpty = true := by rw [e]; rfl
  have : b = 1 ∨ b = 2 ∨ b = 3 ∨ b = 4 ∨ b = 5 := by omega
  rcases this with rfl | rfl | rfl | rfl | rfl
  · exact absurd (A.symm.trans (show (LL 1).isEmpty = false by kernel_rfl)) (by decide)
  · exact absurd (A.symm.trans (show (LL 2).isEmpty = false by kernel_rfl)) (by decide)
  · exact absurd (A.symm.trans (show (LL 3).isEmpty = false by kernel_rfl)) (by decide)
  · exact absurd (A.symm.trans (show (LL 4).isEmpty = false by kernel_rfl)) (by decide)
  · exact absurd (A.symm.trans (show (LL 5).isEmpty = false by kernel_rfl)) (by decide)
theorem rangeUp_len {n : Nat} : (rangeUp 0 n).length = n := by
  unfold rangeUp
  rw [List.length_map, List.length_range]
  omega
/-- what is left of a condition's making behind its kind -/
def tailF : List PS := p53_law_form.body.drop 2
def FormEnd (T : Tbl) (most : D) (b : Nat) (K : Str) : Prop := ∀ (g n w : Int), ∃ b' us g' n' r, 1 ≤ b' ∧ b' ≤ b ∧ execSs T tailF [some (bx g n), some (.d, most), some (.d, .int b), some (.d, .str K), some (.d, .int w), none] = .ok (.rt (.d, cond b' us) (some (bx g' n') :: some (.d, most) :: r))
theorem fe_all (T : Tbl) (hb : ByOk T) (most : D) (b : Nat) (h1 : 1 ≤ b) (h5 : b ≤ 5) : FormEnd T most b (Str.ofString "all") := by
  intro g n w
  obtain ⟨us, e⟩ := hb b h1 h5 _ (.int w) .all
  exact ⟨b, us, g, n, _, h1, Nat.le_refl _, by
    unfold tailF p53_law_form bx cond
    unfold cond at e
    rw [List.drop_succ_cons, List.drop_succ_cons, List.drop_zero]
    simp -dsimp -implicitDefEqProofs only [ex_nil, ex_cons, then_nx, then_rt, then_ct, then_bk, ex_asg, ex_asgT, ex_par, ex_ret, ex_retMv, ex_ite, ex_brk, ex_cont, ev_var, ev_int, ev_bl, ev_non, ev_str, ev_dct, ev_tup, ev_lst, ev_op, ev_call, ev_and, ev_or, ev_not, ev_ifx, evs_nil, evs_cons, esv_nil, esv_cons, eas_nil, eas_var, eas_op, eas_int, eas_bl, eas_non, eas_str, eas_tup, eas_lst, eas_dct, eas_call, eas_and, eas_or, eas_not, eas_ifx, eas_comp, eas_slc, ex_put, putIn_l, ixN0, ixN1, fill_nil, fill_inl, fill_inr, asB_ok, bnd_ok, bnd_no, iff_t, iff_f, op_add, op_sub, op_neg, op_mul, op_fdiv, op_mod, op_gt, op_ge, op_lt, op_le, op_int, op_abs, op_min2, op_max2, op_lenL, op_lenS, op_lenD, op_lenT, op_tupL, op_tupD, op_ixL, op_ixD, op_ixS, op_ixT, atI0, atI1, setS_in, readV_eq, readO_d, readO_l, get_eq, getO_some, ixO_some, putO_some, List.getElem?_cons_zero, List.getElem?_cons_succ, List.set_cons_zero, List.set_cons_succ, List.length_cons, List.length_nil, Nat.reduceAdd, Nat.reduceLT, ne_eq, not_false_eq_true, and_self, true_and, and_true, own_l, own_d, own_s, own_r, own_n, nd_nil, nd_one, pb_l, pb_s, pb_d, pb_r, pb_n, noS_d, noS_l, setAll_nil, setAll_cons, s_all_some, s_all_ranks, s_all_pairs, s_all_even, e]
    rfl⟩
theorem fe_just (T : Tbl) (hb : ByOk T) (most : D) (b : Nat) (h1 : 1 ≤ b) (h5 : b ≤ 5) : FormEnd T most b (Str.ofString "just") := by
  intro g n w
  obtain ⟨us, e⟩ := hb b h1 h5 _ (.int w) .just
  exact ⟨b, us, g, n, _, h1, Nat.le_refl _, by
    unfold tailF p53_law_form bx cond
    unfold cond at e
    rw [List.drop_succ_cons, List.drop_succ_cons, List.drop_zero]
    simp -dsimp -implicitDefEqProofs only [ex_nil, ex_cons, then_nx, then_rt, then_ct, then_bk, ex_asg, ex_asgT, ex_par, ex_ret, ex_retMv, ex_ite, ex_brk, ex_cont, ev_var, ev_int, ev_bl, ev_non, ev_str, ev_dct, ev_tup, ev_lst, ev_op, ev_call, ev_and, ev_or, ev_not, ev_ifx, evs_nil, evs_cons, esv_nil, esv_cons, eas_nil, eas_var, eas_op, eas_int, eas_bl, eas_non, eas_str, eas_tup, eas_lst, eas_dct, eas_call, eas_and, eas_or, eas_not, eas_ifx, eas_comp, eas_slc, ex_put, putIn_l, ixN0, ixN1, fill_nil, fill_inl, fill_inr, asB_ok, bnd_ok, bnd_no, iff_t, iff_f, op_add, op_sub, op_neg, op_mul, op_fdiv, op_mod, op_gt, op_ge, op_lt, op_le, op_int, op_abs, op_min2, op_max2, op_lenL, op_lenS, op_lenD, op_lenT, op_tupL, op_tupD, op_ixL, op_ixD, op_ixS, op_ixT, atI0, atI1, setS_in, readV_eq, readO_d, readO_l, get_eq, getO_some, ixO_some, putO_some, List.getElem?_cons_zero, List.getElem?_cons_succ, List.set_cons_zero, List.set_cons_succ, List.length_cons, List.length_nil, Nat.reduceAdd, Nat.reduceLT, ne_eq, not_false_eq_true, and_self, true_and, and_true, own_l, own_d, own_s, own_r, own_n, nd_nil, nd_one, pb_l, pb_s, pb_d, pb_r, pb_n, noS_d, noS_l, setAll_nil, setAll_cons, s_just_some, s_just_ranks, s_just_pairs, s_just_even, e]
    rfl⟩
theorem fe_many (T : Tbl) (hb : ByOk T) (most : D) (b : Nat) (h1 : 1 ≤ b) (h5 : b ≤ 5) : FormEnd T most b (Str.ofString "many") := by
  intro g n w
  obtain ⟨us, e⟩ := hb b h1 h5 _ (.int w) .many
  exact ⟨b, us, g, n, _, h1, Nat.le_refl _, by
    unfold tailF p53_law_form bx cond
    unfold cond at e
    rw [List.drop_succ_cons, List.drop_succ_cons, List.drop_zero]
    simp -dsimp -implicitDefEqProofs only [ex_nil, ex_cons, then_nx, then_rt, then_ct, then_bk, ex_asg, ex_asgT, ex_par, ex_ret, ex_retMv, ex_ite, ex_brk, ex_cont, ev_var, ev_int, ev_bl, ev_non, ev_str, ev_dct, ev_tup, ev_lst, ev_op, ev_call, ev_and, ev_or, ev_not, ev_ifx, evs_nil, evs_cons, esv_nil, esv_cons, eas_nil, eas_var, eas_op, eas_int, eas_bl, eas_non, eas_str, eas_tup, eas_lst, eas_dct, eas_call, eas_and, eas_or, eas_not, eas_ifx, eas_comp, eas_slc, ex_put, putIn_l, ixN0, ixN1, fill_nil, fill_inl, fill_inr, asB_ok, bnd_ok, bnd_no, iff_t, iff_f, op_add, op_sub, op_neg, op_mul, op_fdiv, op_mod, op_gt, op_ge, op_lt, op_le, op_int, op_abs, op_min2, op_max2, op_lenL, op_lenS, op_lenD, op_lenT, op_tupL, op_tupD, op_ixL, op_ixD, op_ixS, op_ixT, atI0, atI1, setS_in, readV_eq, readO_d, readO_l, get_eq, getO_some, ixO_some, putO_some, List.getElem?_cons_zero, List.getElem?_cons_succ, List.set_cons_zero, List.set_cons_succ, List.length_cons, List.length_nil, Nat.reduceAdd, Nat.reduceLT, ne_eq, not_false_eq_true, and_self, true_and, and_true, own_l, own_d, own_s, own_r, own_n, nd_nil, nd_one, pb_l, pb_s, pb_d, pb_r, pb_n, noS_d, noS_l, setAll_nil, setAll_cons, s_many_some, s_many_ranks, s_many_pairs, s_many_even, e]
    rfl⟩
theorem fe_some (T : Tbl) (hb : ByOk T) (hp : PickOk T) (hl : LotsOk T) (most : D) (b : Nat) (h1 : 1 ≤ b) (h5 : b ≤ 5) : FormEnd T most b (Str.ofString "some") := by
  intro g n w
  obtain ⟨x, g', n', e, hx⟩ := hp g n (ofTups (LL b)) (fun h => LL_ne b h1 h5 (List.map_eq_nil_iff.mp h)) (by rw [ofTups_len]; have := LL_len b h1 h5; omega)
  obtain ⟨t, _, rfl⟩ := List.mem_map.mp hx
  obtain ⟨us, eb⟩ := hb b h1 h5 _ _ (.some (t := t))
  have hl := hl b h1 h5
  exact ⟨b, us, g', n', _, h1, Nat.le_refl _, by
    unfold tailF p53_law_form
    unfold cond at *
    unfold bx at *
    rw [List.drop_succ_cons, List.drop_succ_cons, List.drop_zero]
    simp -dsimp -implicitDefEqProofs only [ex_nil, ex_cons, then_nx, then_rt, then_ct, then_bk, ex_asg, ex_asgT, ex_par, ex_ret, ex_retMv, ex_ite, ex_brk, ex_cont, ev_var, ev_int, ev_bl, ev_non, ev_str, ev_dct, ev_tup, ev_lst, ev_op, ev_call, ev_and, ev_or, ev_not, ev_ifx, evs_nil, evs_cons, esv_nil, esv_cons, eas_nil, eas_var, eas_op, eas_int, eas_bl, eas_non, eas_str, eas_tup, eas_lst, eas_dct, eas_call, eas_and, eas_or, eas_not, eas_ifx, eas_comp, eas_slc, ex_put, putIn_l, ixN0, ixN1, fill_nil, fill_inl, fill_inr, asB_ok, bnd_ok, bnd_no, iff_t, iff_f, op_add, op_sub, op_neg, op_mul, op_fdiv, op_mod, op_gt, op_ge, op_lt, op_le, op_int, op_abs, op_min2, op_max2, op_lenL, op_lenS, op_lenD, op_lenT, op_tupL, op_tupD, op_ixL, op_ixD, op_ixS, op_ixT, atI0, atI1, setS_in, readV_eq, readO_d, readO_l, get_eq, getO_some, ixO_some, putO_some, List.getElem?_cons_zero, List.getElem?_cons_succ, List.set_cons_zero, List.set_cons_succ, List.length_cons, List.length_nil, Nat.reduceAdd, Nat.reduceLT, ne_eq, not_false_eq_true, and_self, true_and, and_true, own_l, own_d, own_s, own_r, own_n, nd_nil, nd_one, pb_l, pb_s, pb_d, pb_r, pb_n, noS_d, noS_l, setAll_nil, setAll_cons, s_some_some, s_some_ranks, s_some_pairs, s_some_even, e, eb, hl]
    rfl⟩
theorem ranks_run (T : Tbl) (ht : TakeOk T) (most : D) (b : Nat) (h5 : b ≤ 5) (g n w : Int) : ∃ (ns : List Int) (g' n' : Int), ns.length = b ∧ evalE T (.comp (.call 12 [.var 0, .int 6]) [5] (.var 5) (.range1 (.var 2)) (.bl true)) [some (.l .d, .list [.int g, .int n]), some (.d, most), some (.d, .int b), some (.d, .str (Str.ofString "ranks")), some (.d, .int w), none] = .ok ((.l .d, .list (ofInts ns)), [some (.l .d, .list [.int g', .int n']), some (.d, most), some (.d, .int b), some (.d, .str (Str.ofString "ranks")), some (.d, .int w), none]) := by
  have hs : small b = true := small_nat (by omega)
  obtain ⟨ys, r2, C, ⟨g', n', rfl⟩, hsel⟩ := comp_inv (T := T) (elt := .call 12 [.var 0, .int 6]) (cond := .bl true) (v := 5) (it := .range1 (.var 2)) (items := rangeUp 0 b) (ρ := [some (bx g n), some (.d, most), some (.d, .int b), some (.d, .str (Str.ofString "ranks")), some (.d, .int w), none]) (ρ1 := [some (bx g n), some (.d, most), some (.d, .int b), some (.d, .str (Str.ofString "ranks")), some (.d, .int w), none])
    (P := fun x y => ∃ d : Int, y = .int d) (S := fun _ => False) (Inv := fun r => ∃ g n, r = [some (bx g n), some (.d, most), some (.d, .int b), some (.d, .str (Str.ofString "ranks")), some (.d, .int w), none]) (ei_range1_ok (k := .d) (by simp -dsimp -implicitDefEqProofs only [ex_nil, ex_cons, then_nx, then_rt, then_ct, then_bk, ex_asg, ex_asgT, ex_par, ex_ret, ex_retMv, ex_ite, ex_brk, ex_cont, ev_var, ev_int, ev_bl, ev_non, ev_str, ev_dct, ev_tup, ev_lst, ev_op, ev_call, ev_and, ev_or, ev_not, ev_ifx, evs_nil, evs_cons, esv_nil, esv_cons, eas_nil, eas_var, eas_op, eas_int, eas_bl, eas_non, eas_str, eas_tup, eas_lst, eas_dct, eas_call, eas_and, eas_or, eas_not, eas_ifx, eas_comp, eas_slc, ex_put, putIn_l, ixN0, ixN1, fill_nil, fill_inl, fill_inr, asB_ok, bnd_ok, bnd_no, iff_t, iff_f, op_add, op_sub, op_neg, op_mul, op_fdiv, op_mod, op_gt, op_ge, op_lt, op_le, op_int, op_abs, op_min2, op_max2, op_lenL, op_lenS, op_lenD, op_lenT, op_tupL, op_tupD, op_ixL, op_ixD, op_ixS, op_ixT, atI0, atI1, setS_in, readV_eq, readO_d, readO_l, get_eq, getO_some, ixO_some, putO_some, List.getElem?_cons_zero, List.getElem?_cons_succ, List.set_cons_zero, List.set_cons_succ, List.length_cons, List.length_nil, Nat.reduceAdd, Nat.reduceLT, ne_eq, not_false_eq_true, and_self, true_and, and_true]) hs) (fits_range (by omega)) rfl ⟨g, n, rfl⟩ (fun r hr => by obtain ⟨g, n, rfl⟩ := hr; show 5 < 6; decide) (fun x hx r hr => by
      obtain ⟨g, n, rfl⟩ := hr
      obtain ⟨i, _, rfl⟩ := List.mem_map.mp hx
      obtain ⟨d, g', n', e, _, _⟩ := ht g n 6 (by decide) (by decide)
      refine .inr ⟨[some (bx g n), some (.d, most), some (.d, .int b), some (.d, .str (Str.ofString "ranks")), some (.d, .int w), some (.d, .int (0 + (i : Int)))], .d, .int d, [some (bx g' n'), some (.d, most), some (.d, .int b), some (.d, .str (Str.ofString "ranks")), some (.d, .int w), some (.d, .int (0 + (i : Int)))], rfl, ?_, ⟨d, rfl⟩, g', n', rfl⟩
      unfold bx at *
      simp -dsimp -implicitDefEqProofs only [ex_nil, ex_cons, then_nx, then_rt, then_ct, then_bk, ex_asg, ex_asgT, ex_par, ex_ret, ex_retMv, ex_ite, ex_brk, ex_cont, ev_var, ev_int, ev_bl, ev_non, ev_str, ev_dct, ev_tup, ev_lst, ev_op, ev_call, ev_and, ev_or, ev_not, ev_ifx, evs_nil, evs_cons, esv_nil, esv_cons, eas_nil, eas_var, eas_op, eas_int, eas_bl, eas_non, eas_str, eas_tup, eas_lst, eas_dct, eas_call, eas_and, eas_or, eas_not, eas_ifx, eas_comp, eas_slc, ex_put, putIn_l, ixN0, ixN1, fill_nil, fill_inl, fill_inr, asB_ok, bnd_ok, bnd_no, iff_t, iff_f, op_add, op_sub, op_neg, op_mul, op_fdiv, op_mod, op_gt, op_ge, op_lt, op_le, op_int, op_abs, op_min2, op_max2, op_lenL, op_lenS, op_lenD, op_lenT, op_tupL, op_tupD, op_ixL, op_ixD, op_ixS, op_ixT, atI0, atI1, setS_in, readV_eq, readO_d, readO_l, get_eq, getO_some, ixO_some, putO_some, List.getElem?_cons_zero, List.getElem?_cons_succ, List.set_cons_zero, List.set_cons_succ, List.length_cons, List.length_nil, Nat.reduceAdd, Nat.reduceLT, ne_eq, not_false_eq_true, and_self, true_and, and_true, own_l, own_d, own_s, own_r, own_n, nd_nil, nd_one, pb_l, pb_s, pb_d, pb_r, pb_n, noS_d, noS_l, setAll_nil, setAll_cons, e])
  obtain ⟨ns, rfl, hns⟩ := sel_all (fun _ _ h => h) hsel
  rw [rangeUp_len] at hns
  exact ⟨ns, g', n', hns, C⟩
theorem fe_ranks' (T : Tbl) (hb : ByOk T) (ht : TakeOk T) (most : D) (b : Nat) (h1 : 1 ≤ b) (h5 : b ≤ 5) (g n w : Int) (i : Int) (hi : i = b) : ∃ us g' n' r, execSs T tailF [some (bx g n), some (.d, most), some (.d, .int i), some (.d, .str (Str.ofString "ranks")), some (.d, .int w), none] = .ok (.rt (.d, .tuple [.int i, .tuple (ofTups us)]) (some (bx g' n') :: some (.d, most) :: r)) := by
  obtain ⟨ns, g', n', hns, C⟩ := ranks_run T ht most b h5 g n w
  obtain ⟨us, eb⟩ := hb b h1 h5 _ _ (.ranks hns)
  unfold cond at eb
  rw [← hi] at C eb
  exact ⟨us, g', n', _, by
    unfold tailF p53_law_form bx
    rw [List.drop_succ_cons, List.drop_succ_cons, List.drop_zero]
    simp -dsimp -implicitDefEqProofs only [ex_nil, ex_cons, then_nx, then_rt, then_ct, then_bk, ex_asg, ex_asgT, ex_par, ex_ret, ex_retMv, ex_ite, ex_brk, ex_cont, ev_var, ev_int, ev_bl, ev_non, ev_str, ev_dct, ev_tup, ev_lst, ev_op, ev_call, ev_and, ev_or, ev_not, ev_ifx, evs_nil, evs_cons, esv_nil, esv_cons, eas_nil, eas_var, eas_op, eas_int, eas_bl, eas_non, eas_str, eas_tup, eas_lst, eas_dct, eas_call, eas_and, eas_or, eas_not, eas_ifx, eas_comp, eas_slc, ex_put, putIn_l, ixN0, ixN1, fill_nil, fill_inl, fill_inr, asB_ok, bnd_ok, bnd_no, iff_t, iff_f, op_add, op_sub, op_neg, op_mul, op_fdiv, op_mod, op_gt, op_ge, op_lt, op_le, op_int, op_abs, op_min2, op_max2, op_lenL, op_lenS, op_lenD, op_lenT, op_tupL, op_tupD, op_ixL, op_ixD, op_ixS, op_ixT, atI0, atI1, setS_in, readV_eq, readO_d, readO_l, get_eq, getO_some, ixO_some, putO_some, List.getElem?_cons_zero, List.getElem?_cons_succ, List.set_cons_zero, List.set_cons_succ, List.length_cons, List.length_nil, Nat.reduceAdd, Nat.reduceLT, ne_eq, not_false_eq_true, and_self, true_and, and_true, own_l, own_d, own_s, own_r, own_n, nd_nil, nd_one, pb_l, pb_s, pb_d, pb_r, pb_n, noS_d, noS_l, setAll_nil, setAll_cons, s_ranks_some, s_ranks_ranks, s_ranks_pairs, s_ranks_even, C, eb, op_tupD, op_tupL]
    rfl⟩
theorem fe_ranks (T : Tbl) (hb : ByOk T) (ht : TakeOk T) (most : D) (b : Nat) (h1 : 1 ≤ b) (h5 : b ≤ 5) : FormEnd T most b (Str.ofString "ranks") := by
  intro g n w
  obtain ⟨us, g', n', r, e⟩ := fe_ranks' T hb ht most b h1 h5 g n w b rfl
  exact ⟨b, us, g', n', r, h1, Nat.le_refl _, e⟩
theorem fe_pairs2 (T : Tbl) (hb : ByOk T) (most : D) : FormEnd T most 2 (Str.ofString "pairs") := by
  intro g n w
  obtain ⟨us, eb⟩ := hb 2 (by decide) (by decide) _ _ (.pairs (n := 1) (by decide))
  have eb : T.f 52 [(.d, .int 2), (.d, .str (Str.ofString "pairs")), (.d, .int 1)] = .ok ((.d, cond 2 us), [(.d, .int 2), (.d, .str (Str.ofString "pairs")), (.d, .int 1)]) := eb
  have f1 : Int.fdiv ((2 : Nat) : Int) 2 = 1 := rfl
  have f2 : (2 : Int) * 1 = 2 := rfl
  have f3 : Int.fdiv 2 2 = 1 := rfl
  have c1 : ¬ ((2 : Int) = 0) := by decide
  have c2 : (2 : Int).natAbs < 1073741824 := by decide
  have m1 : lim 2 = true := by decide
  exact ⟨2, us, g, n, _, by decide, by decide, by
    unfold tailF p53_law_form
    unfold cond at *
    unfold bx at *
    rw [List.drop_succ_cons, List.drop_succ_cons, List.drop_zero]
    simp -dsimp -implicitDefEqProofs only [ex_nil, ex_cons, then_nx, then_rt, then_ct, then_bk, ex_asg, ex_asgT, ex_par, ex_ret, ex_retMv, ex_ite, ex_brk, ex_cont, ev_var, ev_int, ev_bl, ev_non, ev_str, ev_dct, ev_tup, ev_lst, ev_op, ev_call, ev_and, ev_or, ev_not, ev_ifx, evs_nil, evs_cons, esv_nil, esv_cons, eas_nil, eas_var, eas_op, eas_int, eas_bl, eas_non, eas_str, eas_tup, eas_lst, eas_dct, eas_call, eas_and, eas_or, eas_not, eas_ifx, eas_comp, eas_slc, ex_put, putIn_l, ixN0, ixN1, fill_nil, fill_inl, fill_inr, asB_ok, bnd_ok, bnd_no, iff_t, iff_f, op_add, op_sub, op_neg, op_mul, op_fdiv, op_mod, op_gt, op_ge, op_lt, op_le, op_int, op_abs, op_min2, op_max2, op_lenL, op_lenS, op_lenD, op_lenT, op_tupL, op_tupD, op_ixL, op_ixD, op_ixS, op_ixT, atI0, atI1, setS_in, readV_eq, readO_d, readO_l, get_eq, getO_some, ixO_some, putO_some, List.getElem?_cons_zero, List.getElem?_cons_succ, List.set_cons_zero, List.set_cons_succ, List.length_cons, List.length_nil, Nat.reduceAdd, Nat.reduceLT, ne_eq, not_false_eq_true, and_self, true_and, and_true, own_l, own_d, own_s, own_r, own_n, nd_nil, nd_one, pb_l, pb_s, pb_d, pb_r, pb_n, noS_d, noS_l, setAll_nil, setAll_cons, s_pairs_some, s_pairs_ranks, s_pairs_pairs, s_pairs_even, c1, c2, m1, op_mulL, f1, f2, f3, eb]
    rfl⟩
theorem fe_pairs3 (T : Tbl) (hb : ByOk T) (most : D) : FormEnd T most 3 (Str.ofString "pairs") := by
  intro g n w
  obtain ⟨us, eb⟩ := hb 2 (by decide) (by decide) _ _ (.pairs (n := 1) (by decide))
  have eb : T.f 52 [(.d, .int 2), (.d, .str (Str.ofString "pairs")), (.d, .int 1)] = .ok ((.d, cond 2 us), [(.d, .int 2), (.d, .str (Str.ofString "pairs")), (.d, .int 1)]) := eb
  have f1 : Int.fdiv ((3 : Nat) : Int) 2 = 1 := rfl
  have f2 : (2 : Int) * 1 = 2 := rfl
  have f3 : Int.fdiv 2 2 = 1 := rfl
  have c1 : ¬ ((2 : Int) = 0) := by decide
  have c2 : (2 : Int).natAbs < 1073741824 := by decide
  have m1 : lim 2 = true := by decide
  exact ⟨2, us, g, n, _, by decide, by decide, by
    unfold tailF p53_law_form
    unfold cond at *
    unfold bx at *
    rw [List.drop_succ_cons, List.drop_succ_cons, List.drop_zero]
    simp -dsimp -implicitDefEqProofs only [ex_nil, ex_cons, then_nx, then_rt, then_ct, then_bk, ex_asg, ex_asgT, ex_par, ex_ret, ex_retMv, ex_ite, ex_brk, ex_cont, ev_var, ev_int, ev_bl, ev_non, ev_str, ev_dct, ev_tup, ev_lst, ev_op, ev_call, ev_and, ev_or, ev_not, ev_ifx, evs_nil, evs_cons, esv_nil, esv_cons, eas_nil, eas_var, eas_op, eas_int, eas_bl, eas_non, eas_str, eas_tup, eas_lst, eas_dct, eas_call, eas_and, eas_or, eas_not, eas_ifx, eas_comp, eas_slc, ex_put, putIn_l, ixN0, ixN1, fill_nil, fill_inl, fill_inr, asB_ok, bnd_ok, bnd_no, iff_t, iff_f, op_add, op_sub, op_neg, op_mul, op_fdiv, op_mod, op_gt, op_ge, op_lt, op_le, op_int, op_abs, op_min2, op_max2, op_lenL, op_lenS, op_lenD, op_lenT, op_tupL, op_tupD, op_ixL, op_ixD, op_ixS, op_ixT, atI0, atI1, setS_in, readV_eq, readO_d, readO_l, get_eq, getO_some, ixO_some, putO_some, List.getElem?_cons_zero, List.getElem?_cons_succ, List.set_cons_zero, List.set_cons_succ, List.length_cons, List.length_nil, Nat.reduceAdd, Nat.reduceLT, ne_eq, not_false_eq_true, and_self, true_and, and_true, own_l, own_d, own_s, own_r, own_n, nd_nil, nd_one, pb_l, pb_s, pb_d, pb_r, pb_n, noS_d, noS_l, setAll_nil, setAll_cons, s_pairs_some, s_pairs_ranks, s_pairs_pairs, s_pairs_even, c1, c2, m1, op_mulL, f1, f2, f3, eb]
    rfl⟩
theorem fe_pairs4 (T : Tbl) (hb : ByOk T) (most : D) : FormEnd T most 4 (Str.ofString "pairs") := by
  intro g n w
  obtain ⟨us, eb⟩ := hb 4 (by decide) (by decide) _ _ (.pairs (n := 2) (by decide))
  have eb : T.f 52 [(.d, .int 4), (.d, .str (Str.ofString "pairs")), (.d, .int 2)] = .ok ((.d, cond 4 us), [(.d, .int 4), (.d, .str (Str.ofString "pairs")), (.d, .int 2)]) := eb
  have f1 : Int.fdiv ((4 : Nat) : Int) 2 = 2 := rfl
  have f2 : (2 : Int) * 2 = 4 := rfl
  have f3 : Int.fdiv 4 2 = 2 := rfl
  have c1 : ¬ ((2 : Int) = 0) := by decide
  have c2 : (2 : Int).natAbs < 1073741824 := by decide
  have m1 : lim 2 = true := by decide
  exact ⟨4, us, g, n, _, by decide, by decide, by
    unfold tailF p53_law_form
    unfold cond at *
    unfold bx at *
    rw [List.drop_succ_cons, List.drop_succ_cons, List.drop_zero]
    simp -dsimp -implicitDefEqProofs only [ex_nil, ex_cons, then_nx, then_rt, then_ct, then_bk, ex_asg, ex_asgT, ex_par, ex_ret, ex_retMv, ex_ite, ex_brk, ex_cont, ev_var, ev_int, ev_bl, ev_non, ev_str, ev_dct, ev_tup, ev_lst, ev_op, ev_call, ev_and, ev_or, ev_not, ev_ifx, evs_nil, evs_cons, esv_nil, esv_cons, eas_nil, eas_var, eas_op, eas_int, eas_bl, eas_non, eas_str, eas_tup, eas_lst, eas_dct, eas_call, eas_and, eas_or, eas_not, eas_ifx, eas_comp, eas_slc, ex_put, putIn_l, ixN0, ixN1, fill_nil, fill_inl, fill_inr, asB_ok, bnd_ok, bnd_no, iff_t, iff_f, op_add, op_sub, op_neg, op_mul, op_fdiv, op_mod, op_gt, op_ge, op_lt, op_le, op_int, op_abs, op_min2, op_max2, op_lenL, op_lenS, op_lenD, op_lenT, op_tupL, op_tupD, op_ixL, op_ixD, op_ixS, op_ixT, atI0, atI1, setS_in, readV_eq, readO_d, readO_l, get_eq, getO_some, ixO_some, putO_some, List.getElem?_cons_zero, List.getElem?_cons_succ, List.set_cons_zero, List.set_cons_succ, List.length_cons, List.length_nil, Nat.reduceAdd, Nat.reduceLT, ne_eq, not_false_eq_true, and_self, true_and, and_true, own_l, own_d, own_s, own_r, own_n, nd_nil, nd_one, pb_l, pb_s, pb_d, pb_r, pb_n, noS_d, noS_l, setAll_nil, setAll_cons, s_pairs_some, s_pairs_ranks, s_pairs_pairs, s_pairs_even, c1, c2, m1, op_mulL, f1, f2, f3, eb]
    rfl⟩
theorem fe_pairs5 (T : Tbl) (hb : ByOk T) (most : D) : FormEnd T most 5 (Str.ofString "pairs") := by
  intro g n w
  obtain ⟨us, eb⟩ := hb 4 (by decide) (by decide) _ _ (.pairs (n := 2) (by decide))
  have eb : T.f 52 [(.d, .int 4), (.d, .str (Str.ofString "pairs")), (.d, .int 2)] = .ok ((.d, cond 4 us), [(.d, .int 4), (.d, .str (Str.ofString "pairs")), (.d, .int 2)]) := eb
  have f1 : Int.fdiv ((5 : Nat) : Int) 2 = 2 := rfl
  have f2 : (2 : Int) * 2 = 4 := rfl
  have f3 : Int.fdiv 4 2 = 2 := rfl
  have c1 : ¬ ((2 : Int) = 0) := by decide
  have c2 : (2 : Int).natAbs < 1073741824 := by decide
  have m1 : lim 2 = true := by decide
  exact ⟨4, us, g, n, _, by decide, by decide, by
    unfold tailF p53_law_form
    unfold cond at *
    unfold bx at *
    rw [List.drop_succ_cons, List.drop_succ_cons, List.drop_zero]
    simp -dsimp -implicitDefEqProofs only [ex_nil, ex_cons, then_nx, then_rt, then_ct, then_bk, ex_asg, ex_asgT, ex_par, ex_ret, ex_retMv, ex_ite, ex_brk, ex_cont, ev_var, ev_int, ev_bl, ev_non, ev_str, ev_dct, ev_tup, ev_lst, ev_op, ev_call, ev_and, ev_or, ev_not, ev_ifx, evs_nil, evs_cons, esv_nil, esv_cons, eas_nil, eas_var, eas_op, eas_int, eas_bl, eas_non, eas_str, eas_tup, eas_lst, eas_dct, eas_call, eas_and, eas_or, eas_not, eas_ifx, eas_comp, eas_slc, ex_put, putIn_l, ixN0, ixN1, fill_nil, fill_inl, fill_inr, asB_ok, bnd_ok, bnd_no, iff_t, iff_f, op_add, op_sub, op_neg, op_mul, op_fdiv, op_mod, op_gt, op_ge, op_lt, op_le, op_int, op_abs, op_min2, op_max2, op_lenL, op_lenS, op_lenD, op_lenT, op_tupL, op_tupD, op_ixL, op_ixD, op_ixS, op_ixT, atI0, atI1, setS_in, readV_eq, readO_d, readO_l, get_eq, getO_some, ixO_some, putO_some, List.getElem?_cons_zero, List.getElem?_cons_succ, List.set_cons_zero, List.set_cons_succ, List.length_cons, List.length_nil, Nat.reduceAdd, Nat.reduceLT, ne_eq, not_false_eq_true, and_self, true_and, and_true, own_l, own_d, own_s, own_r, own_n, nd_nil, nd_one, pb_l, pb_s, pb_d, pb_r, pb_n, noS_d, noS_l, setAll_nil, setAll_cons, s_pairs_some, s_pairs_ranks, s_pairs_pairs, s_pairs_even, c1, c2, m1, op_mulL, f1, f2, f3, eb]
    rfl⟩
theorem fe_even (T : Tbl) (hb : ByOk T) (ht : TakeOk T) (most : D) (b : Nat) (h1 : 1 ≤ b) (h5 : b ≤ 5) : FormEnd T most b (Str.ofString "even") := by
  intro g n w
  obtain ⟨d, g', n', e, _, _⟩ := ht g n 2 (by decide) (by decide)
  by_cases h : (4 : Int) < b
  · obtain ⟨us, eb⟩ := hb 4 (by decide) (by decide) _ _ (.even (i := d))
    have eb : T.f 52 [(.d, .int 4), (.d, .str (Str.ofString "even")), (.d, .int d)] = .ok ((.d, cond 4 us), [(.d, .int 4), (.d, .str (Str.ofString "even")), (.d, .int d)]) := eb
    exact ⟨4, us, g', n', _, by decide, by omega, by
      unfold tailF p53_law_form
      unfold cond at *
      unfold bx at *
      rw [List.drop_succ_cons, List.drop_succ_cons, List.drop_zero]
      simp -dsimp -implicitDefEqProofs only [ex_nil, ex_cons, then_nx, then_rt, then_ct, then_bk, ex_asg, ex_asgT, ex_par, ex_ret, ex_retMv, ex_ite, ex_brk, ex_cont, ev_var, ev_int, ev_bl, ev_non, ev_str, ev_dct, ev_tup, ev_lst, ev_op, ev_call, ev_and, ev_or, ev_not, ev_ifx, evs_nil, evs_cons, esv_nil, esv_cons, eas_nil, eas_var, eas_op, eas_int, eas_bl, eas_non, eas_str, eas_tup, eas_lst, eas_dct, eas_call, eas_and, eas_or, eas_not, eas_ifx, eas_comp, eas_slc, ex_put, putIn_l, ixN0, ixN1, fill_nil, fill_inl, fill_inr, asB_ok, bnd_ok, bnd_no, iff_t, iff_f, op_add, op_sub, op_neg, op_mul, op_fdiv, op_mod, op_gt, op_ge, op_lt, op_le, op_int, op_abs, op_min2, op_max2, op_lenL, op_lenS, op_lenD, op_lenT, op_tupL, op_tupD, op_ixL, op_ixD, op_ixS, op_ixT, atI0, atI1, setS_in, readV_eq, readO_d, readO_l, get_eq, getO_some, ixO_some, putO_some, List.getElem?_cons_zero, List.getElem?_cons_succ, List.set_cons_zero, List.set_cons_succ, List.length_cons, List.length_nil, Nat.reduceAdd, Nat.reduceLT, ne_eq, not_false_eq_true, and_self, true_and, and_true, own_l, own_d, own_s, own_r, own_n, nd_nil, nd_one, pb_l, pb_s, pb_d, pb_r, pb_n, noS_d, noS_l, setAll_nil, setAll_cons, s_even_some, s_even_ranks, s_even_pairs, s_even_even, e, h, if_pos, eb]
      rfl⟩
  · obtain ⟨us, eb⟩ := hb b h1 h5 _ _ (.even (i := d))
    exact ⟨b, us, g', n', _, h1, Nat.le_refl _, by
      unfold tailF p53_law_form
      unfold cond at *
      unfold bx at *
      rw [List.drop_succ_cons, List.drop_succ_cons, List.drop_zero]
      simp -dsimp -implicitDefEqProofs only [ex_nil, ex_cons, then_nx, then_rt, then_ct, then_bk, ex_asg, ex_asgT, ex_par, ex_ret, ex_retMv, ex_ite, ex_brk, ex_cont, ev_var, ev_int, ev_bl, ev_non, ev_str, ev_dct, ev_tup, ev_lst, ev_op, ev_call, ev_and, ev_or, ev_not, ev_ifx, evs_nil, evs_cons, esv_nil, esv_cons, eas_nil, eas_var, eas_op, eas_int, eas_bl, eas_non, eas_str, eas_tup, eas_lst, eas_dct, eas_call, eas_and, eas_or, eas_not, eas_ifx, eas_comp, eas_slc, ex_put, putIn_l, ixN0, ixN1, fill_nil, fill_inl, fill_inr, asB_ok, bnd_ok, bnd_no, iff_t, iff_f, op_add, op_sub, op_neg, op_mul, op_fdiv, op_mod, op_gt, op_ge, op_lt, op_le, op_int, op_abs, op_min2, op_max2, op_lenL, op_lenS, op_lenD, op_lenT, op_tupL, op_tupD, op_ixL, op_ixD, op_ixS, op_ixT, atI0, atI1, setS_in, readV_eq, readO_d, readO_l, get_eq, getO_some, ixO_some, putO_some, List.getElem?_cons_zero, List.getElem?_cons_succ, List.set_cons_zero, List.set_cons_succ, List.length_cons, List.length_nil, Nat.reduceAdd, Nat.reduceLT, ne_eq, not_false_eq_true, and_self, true_and, and_true, own_l, own_d, own_s, own_r, own_n, nd_nil, nd_one, pb_l, pb_s, pb_d, pb_r, pb_n, noS_d, noS_l, setAll_nil, setAll_cons, s_even_some, s_even_ranks, s_even_pairs, s_even_even, e, h, if_neg, if_false, eb]
      rfl⟩
theorem fe_all_kinds (T : Tbl) (hb : ByOk T) (ht : TakeOk T) (hp : PickOk T) (hl : LotsOk T) (most : D) (b : Nat) (h2 : 2 ≤ b) (h5 : b ≤ 5) (x : D) (hx : x ∈ kindsD) : ∃ K, x = .str K ∧ FormEnd T most b K := by
  have h1 : 1 ≤ b := by omega
  have pr : FormEnd T most b (Str.ofString "pairs") := by
    have : b = 2 ∨ b = 3 ∨ b = 4 ∨ b = 5 := by omega
    rcases this with rfl | rfl | rfl | rfl
    · exact fe_pairs2 T hb most
    · exact fe_pairs3 T hb most
    · exact fe_pairs4 T hb most
    · exact fe_pairs5 T hb most
  rcases List.mem_cons.mp hx with rfl | hx
  · exact ⟨_, rfl, fe_all T hb most b h1 h5⟩
  rcases List.mem_cons.mp hx with rfl | hx
  · exact ⟨_, rfl, fe_some T hb hp hl most b h1 h5⟩
  rcases List.mem_cons.mp hx with rfl | hx
  · exact ⟨_, rfl, fe_ranks T hb ht most b h1 h5⟩
  rcases List.mem_cons.mp hx with rfl | hx
  · exact ⟨_, rfl, pr⟩
  rcases List.mem_cons.mp hx with rfl | hx
  · exact ⟨_, rfl, fe_just T hb most b h1 h5⟩
  rcases List.mem_cons.mp hx with rfl | hx
  · exact ⟨_, rfl, fe_many T hb most b h1 h5⟩
  rcases List.mem_cons.mp hx with rfl | hx
  · exact ⟨_, rfl, fe_even T hb ht most b h1 h5⟩
  cases hx
end K02
end PL
end

section
set_option Elab.async false
set_option linter.all false
set_option maxRecDepth 100000
set_option autoImplicit false
/-! PL02g: drawn conditions. -/
namespace PL
open PySem
theorem ex_app2 {T : Tbl} : ∀ (as bs : List PS) (r r1 : Env), execSs T as r = .ok (.nx r1) → execSs T (as ++ bs) r = execSs T bs r1 := by
  intro as
  induction as with
  | nil => exact fun bs r r1 e => by cases e; rfl
  | cons s ss ih =>
    intro bs r r1 e
    rw [ex_cons] at e
    rw [List.cons_append, ex_cons]
    cases es : execS T s r with
    | ok o =>
      rw [es] at e
      cases o with
      | nx r' => exact ih bs r' r1 e
      | rt v r' => cases e
      | bk r' => cases e
      | ct r' => cases e
    | ex _ => rw [es] at e; cases e
    | no => rw [es] at e; cases e
namespace K02
theorem form_run (T : Tbl) (hb : ByOk T) (ht : TakeOk T) (hp : PickOk T) (hl : LotsOk T) (g n m : Int) (h3 : 3 ≤ m) (h5 : m ≤ 5) : ∃ b us g' n', 1 ≤ b ∧ b ≤ 5 ∧ runDef T p53_law_form [bx g n, (.d, .int m)] = .ok ((.d, cond b us), [bx g' n', (.d, .int m)]) := by
  obtain ⟨d1, g1, n1, e1, d10, d11⟩ := ht g n (m - 1) (by omega) (by omega)
  obtain ⟨x, g2, n2, e2, hx⟩ := hp g1 n1 kindsD (by unfold kindsD; exact fun h => nomatch h) (by decide)
  obtain ⟨b, hb2⟩ : ∃ b : Nat, (b : Int) = 2 + d1 := ⟨(2 + d1).toNat, by omega⟩
  obtain ⟨d3, g3, n3, e3, d30, d31⟩ := ht g2 n2 (2 + d1) (by omega) (by omega)
  obtain ⟨K, rfl, hK⟩ := fe_all_kinds T hb ht hp hl (.int m) b (by omega) (by omega) x hx
  obtain ⟨b', us, g4, n4, r, hb1, hb3, e4⟩ := hK g3 n3 (1 + d3)
  rw [hb2] at e4
  have H : execSs T (p53_law_form.body.take 2) [some (bx g n), some (.d, .int m), none, none, none, none] = .ok (.nx [some (bx g3 n3), some (.d, .int m), some (.d, .int (2 + d1)), some (.d, .str K), some (.d, .int (1 + d3)), none]) := by
    unfold p53_law_form
    unfold kindsD at e2
    unfold bx at *
    rw [List.take_succ_cons, List.take_succ_cons, List.take_zero]
    simp -dsimp -implicitDefEqProofs only [ex_nil, ex_cons, then_nx, then_rt, then_ct, then_bk, ex_asg, ex_asgT, ex_par, ex_ret, ex_retMv, ex_ite, ex_brk, ex_cont, ev_var, ev_int, ev_bl, ev_non, ev_str, ev_dct, ev_tup, ev_lst, ev_op, ev_call, ev_and, ev_or, ev_not, ev_ifx, evs_nil, evs_cons, esv_nil, esv_cons, eas_nil, eas_var, eas_op, eas_int, eas_bl, eas_non, eas_str, eas_tup, eas_lst, eas_dct, eas_call, eas_and, eas_or, eas_not, eas_ifx, eas_comp, eas_slc, ex_put, putIn_l, ixN0, ixN1, fill_nil, fill_inl, fill_inr, asB_ok, bnd_ok, bnd_no, iff_t, iff_f, op_add, op_sub, op_neg, op_mul, op_fdiv, op_mod, op_gt, op_ge, op_lt, op_le, op_int, op_abs, op_min2, op_max2, op_lenL, op_lenS, op_lenD, op_lenT, op_tupL, op_tupD, op_ixL, op_ixD, op_ixS, op_ixT, atI0, atI1, setS_in, readV_eq, readO_d, readO_l, get_eq, getO_some, ixO_some, putO_some, List.getElem?_cons_zero, List.getElem?_cons_succ, List.set_cons_zero, List.set_cons_succ, List.length_cons, List.length_nil, Nat.reduceAdd, Nat.reduceLT, ne_eq, not_false_eq_true, and_self, true_and, and_true, own_l, own_d, own_s, own_r, own_n, nd_nil, nd_one, pb_l, pb_s, pb_d, pb_r, pb_n, noS_d, noS_l, setAll_nil, setAll_cons, e1, e2, e3]
  refine ⟨b', us, g4, n4, hb1, by omega, run_rt ⟨rfl, by decide, rfl⟩ ((ex_app2 (p53_law_form.body.take 2) (p53_law_form.body.drop 2) _ _ H).trans e4) rfl⟩
def FormOk (T : Tbl) : Prop := ∀ (g n m : Int), 3 ≤ m → m ≤ 5 → ∃ b us g' n', 1 ≤ b ∧ b ≤ 5 ∧ T.f 53 [bx g n, (.d, .int m)] = .ok ((.d, cond b us), [bx g' n', (.d, .int m)])
def OtherOk (T : Tbl) : Prop := ∀ (b : Nat), 1 ≤ b → b ≤ 5 → ∀ ts, T.f 54 [(.d, cond b ts)] = .ok ((.d, cond b ((LL b).filter fun t => !decide (t ∈ ts))), [(.d, cond b ts)])
/-! ### conditions -/
theorem cd0 (T : Tbl) (hf : FormOk T) (ho : OtherOk T) (ht : TakeOk T) (g n m : Int) (h3 : 3 ≤ m) (h5 : m ≤ 5) (g' n' : Int) (e : T.f 12 [bx g n, (.d, .int 4)] = .ok ((.d, .int 0), [bx g' n', (.d, .int 4)])) : ∃ b us g' n', 1 ≤ b ∧ b ≤ 5 ∧ runDef T p55_law_condition [bx g n, (.d, .int m)] = .ok ((.d, cond b us), [bx g' n', (.d, .int m)]) := by
  obtain ⟨b, us, g2, n2, h1, h55, e2⟩ := hf g' n' m h3 h5
  obtain ⟨d, g3, n3, e3, _, _⟩ := ht g2 n2 2 (by decide) (by decide)
  obtain ⟨vs, eo⟩ : ∃ vs, T.f 54 [(.d, cond b us)] = .ok ((.d, cond b vs), [(.d, cond b us)]) := ⟨_, ho b h1 h55 us⟩
  by_cases hd : d = 0
  · subst hd
    refine ⟨b, vs, g3, n3, h1, h55, run_rt (ρ := [some (bx g3 n3), some (.d, .int m), some (.d, .int 0), some (.d, cond b us), none, none, none, none, none]) ⟨rfl, by decide, rfl⟩ ?_ rfl⟩
    show execSs T p55_law_condition.body [some (bx g n), some (.d, .int m), none, none, none, none, none, none, none] = _
    unfold p55_law_condition
    unfold bx at *
    simp -dsimp -implicitDefEqProofs only [ex_nil, ex_cons, then_nx, then_rt, then_ct, then_bk, ex_asg, ex_asgT, ex_par, ex_ret, ex_retMv, ex_ite, ex_brk, ex_cont, ev_var, ev_int, ev_bl, ev_non, ev_str, ev_dct, ev_tup, ev_lst, ev_op, ev_call, ev_and, ev_or, ev_not, ev_ifx, evs_nil, evs_cons, esv_nil, esv_cons, eas_nil, eas_var, eas_op, eas_int, eas_bl, eas_non, eas_str, eas_tup, eas_lst, eas_dct, eas_call, eas_and, eas_or, eas_not, eas_ifx, eas_comp, eas_slc, ex_put, putIn_l, ixN0, ixN1, fill_nil, fill_inl, fill_inr, asB_ok, bnd_ok, bnd_no, iff_t, iff_f, op_add, op_sub, op_neg, op_mul, op_fdiv, op_mod, op_gt, op_ge, op_lt, op_le, op_int, op_abs, op_min2, op_max2, op_lenL, op_lenS, op_lenD, op_lenT, op_tupL, op_tupD, op_ixL, op_ixD, op_ixS, op_ixT, atI0, atI1, setS_in, readV_eq, readO_d, readO_l, get_eq, getO_some, ixO_some, putO_some, List.getElem?_cons_zero, List.getElem?_cons_succ, List.set_cons_zero, List.set_cons_succ, List.length_cons, List.length_nil, Nat.reduceAdd, Nat.reduceLT, ne_eq, not_false_eq_true, and_self, true_and, and_true, own_l, own_d, own_s, own_r, own_n, nd_nil, nd_one, pb_l, pb_s, pb_d, pb_r, pb_n, noS_d, noS_l, op_eqI, decide_true, e, e2, e3, eo]
  · have hd := decide_eq_false hd
    refine ⟨b, us, g3, n3, h1, h55, run_rt (ρ := [some (bx g3 n3), some (.d, .int m), some (.d, .int 0), some (.d, cond b us), none, none, none, none, none]) ⟨rfl, by decide, rfl⟩ ?_ rfl⟩
    show execSs T p55_law_condition.body [some (bx g n), some (.d, .int m), none, none, none, none, none, none, none] = _
    unfold p55_law_condition
    unfold bx at *
    simp -dsimp -implicitDefEqProofs only [ex_nil, ex_cons, then_nx, then_rt, then_ct, then_bk, ex_asg, ex_asgT, ex_par, ex_ret, ex_retMv, ex_ite, ex_brk, ex_cont, ev_var, ev_int, ev_bl, ev_non, ev_str, ev_dct, ev_tup, ev_lst, ev_op, ev_call, ev_and, ev_or, ev_not, ev_ifx, evs_nil, evs_cons, esv_nil, esv_cons, eas_nil, eas_var, eas_op, eas_int, eas_bl, eas_non, eas_str, eas_tup, eas_lst, eas_dct, eas_call, eas_and, eas_or, eas_not, eas_ifx, eas_comp, eas_slc, ex_put, putIn_l, ixN0, ixN1, fill_nil, fill_inl, fill_inr, asB_ok, bnd_ok, bnd_no, iff_t, iff_f, op_add, op_sub, op_neg, op_mul, op_fdiv, op_mod, op_gt, op_ge, op_lt, op_le, op_int, op_abs, op_min2, op_max2, op_lenL, op_lenS, op_lenD, op_lenT, op_tupL, op_tupD, op_ixL, op_ixD, op_ixS, op_ixT, atI0, atI1, setS_in, readV_eq, readO_d, readO_l, get_eq, getO_some, ixO_some, putO_some, List.getElem?_cons_zero, List.getElem?_cons_succ, List.set_cons_zero, List.set_cons_succ, List.length_cons, List.length_nil, Nat.reduceAdd, Nat.reduceLT, ne_eq, not_false_eq_true, and_self, true_and, and_true, own_l, own_d, own_s, own_r, own_n, nd_nil, nd_one, pb_l, pb_s, pb_d, pb_r, pb_n, noS_d, noS_l, op_eqI, decide_true, hd, e, e2, e3]
/-- lots by draws -/
theorem draws1 (T : Tbl) (ht : TakeOk T) (hl : LotsOk T) (b : Nat) (h1 : 1 ≤ b) (h5 : b ≤ 5) (us : List (List Int)) (m x2 x3 : Option SV) (g n : Int) :
    ∃ vs g' n', evalE T (.comp (.var 7) [7] (.var 7) (.e (.call 51 [.var 4])) (.op .ne [.op .isin [.var 7, .var 5], .op .eq [.call 12 [.var 0, .int 6], .int 0]])) [some (bx g n), m, x2, x3, some (.d, .int b), some (.d, .tuple (ofTups us)), none, none, none] = .ok ((.l .d, .list (ofTups vs)), [some (bx g' n'), m, x2, x3, some (.d, .int b), some (.d, .tuple (ofTups us)), none, none, none]) := by
  have hl := hl b h1 h5
  obtain ⟨vs, r2, e, g', n', rfl⟩ := comp_tups_inv (T := T) (v := 7) (it := .e (.call 51 [.var 4])) (cond := .op .ne [.op .isin [.var 7, .var 5], .op .eq [.call 12 [.var 0, .int 6], .int 0]]) (ts := LL b) (ρ := [some (bx g n), m, x2, x3, some (.d, .int b), some (.d, .tuple (ofTups us)), none, none, none]) (ρ1 := [some (bx g n), m, x2, x3, some (.d, .int b), some (.d, .tuple (ofTups us)), none, none, none])
    (Inv := fun r => ∃ g n, r = [some (bx g n), m, x2, x3, some (.d, .int b), some (.d, .tuple (ofTups us)), none, none, none]) (by
      rw [ei_e]
      unfold bx
      simp -dsimp -implicitDefEqProofs only [ex_nil, ex_cons, then_nx, then_rt, then_ct, then_bk, ex_asg, ex_asgT, ex_par, ex_ret, ex_retMv, ex_ite, ex_brk, ex_cont, ev_var, ev_int, ev_bl, ev_non, ev_str, ev_dct, ev_tup, ev_lst, ev_op, ev_call, ev_and, ev_or, ev_not, ev_ifx, evs_nil, evs_cons, esv_nil, esv_cons, eas_nil, eas_var, eas_op, eas_int, eas_bl, eas_non, eas_str, eas_tup, eas_lst, eas_dct, eas_call, eas_and, eas_or, eas_not, eas_ifx, eas_comp, eas_slc, ex_put, putIn_l, ixN0, ixN1, fill_nil, fill_inl, fill_inr, asB_ok, bnd_ok, bnd_no, iff_t, iff_f, op_add, op_sub, op_neg, op_mul, op_fdiv, op_mod, op_gt, op_ge, op_lt, op_le, op_int, op_abs, op_min2, op_max2, op_lenL, op_lenS, op_lenD, op_lenT, op_tupL, op_tupD, op_ixL, op_ixD, op_ixS, op_ixT, atI0, atI1, setS_in, readV_eq, readO_d, readO_l, get_eq, getO_some, ixO_some, putO_some, List.getElem?_cons_zero, List.getElem?_cons_succ, List.set_cons_zero, List.set_cons_succ, List.length_cons, List.length_nil, Nat.reduceAdd, Nat.reduceLT, ne_eq, not_false_eq_true, and_self, true_and, and_true, own_d, own_n, nd_nil, pb_d, pb_n, noS_l, hl]
      rfl) rfl rfl ⟨g, n, rfl⟩ (fun r hr => by obtain ⟨g, n, rfl⟩ := hr; show 7 < 9; decide) fun t _ r hr => by
    obtain ⟨g, n, rfl⟩ := hr
    obtain ⟨d, g', n', e, _, _⟩ := ht g n 6 (by decide) (by decide)
    refine ⟨!(decide (t ∈ us) == decide (d = 0)), [some (bx g' n'), m, x2, x3, some (.d, .int b), some (.d, .tuple (ofTups us)), none, some (.d, .tuple (ofInts t)), none], ?_, rfl, g', n', rfl⟩
    show evalE T _ [some (bx g n), m, x2, x3, some (.d, .int b), some (.d, .tuple (ofTups us)), none, some (.d, .tuple (ofInts t)), none] = _
    unfold bx at *
    simp -dsimp -implicitDefEqProofs only [ex_nil, ex_cons, then_nx, then_rt, then_ct, then_bk, ex_asg, ex_asgT, ex_par, ex_ret, ex_retMv, ex_ite, ex_brk, ex_cont, ev_var, ev_int, ev_bl, ev_non, ev_str, ev_dct, ev_tup, ev_lst, ev_op, ev_call, ev_and, ev_or, ev_not, ev_ifx, evs_nil, evs_cons, esv_nil, esv_cons, eas_nil, eas_var, eas_op, eas_int, eas_bl, eas_non, eas_str, eas_tup, eas_lst, eas_dct, eas_call, eas_and, eas_or, eas_not, eas_ifx, eas_comp, eas_slc, ex_put, putIn_l, ixN0, ixN1, fill_nil, fill_inl, fill_inr, asB_ok, bnd_ok, bnd_no, iff_t, iff_f, op_add, op_sub, op_neg, op_mul, op_fdiv, op_mod, op_gt, op_ge, op_lt, op_le, op_int, op_abs, op_min2, op_max2, op_lenL, op_lenS, op_lenD, op_lenT, op_tupL, op_tupD, op_ixL, op_ixD, op_ixS, op_ixT, atI0, atI1, setS_in, readV_eq, readO_d, readO_l, get_eq, getO_some, ixO_some, putO_some, List.getElem?_cons_zero, List.getElem?_cons_succ, List.set_cons_zero, List.set_cons_succ, List.length_cons, List.length_nil, Nat.reduceAdd, Nat.reduceLT, ne_eq, not_false_eq_true, and_self, true_and, and_true, own_l, own_d, own_s, own_r, own_n, nd_nil, nd_one, pb_l, pb_s, pb_d, pb_r, pb_n, noS_d, noS_l, op_inTups, op_eqI, op_neB, e]
  exact ⟨vs, g', n', e⟩
theorem cd1 (T : Tbl) (hf : FormOk T) (hl : LotsOk T) (ht : TakeOk T) (g n m : Int) (h3 : 3 ≤ m) (h5 : m ≤ 5) (g' n' : Int) (e : T.f 12 [bx g n, (.d, .int 4)] = .ok ((.d, .int 1), [bx g' n', (.d, .int 4)])) : ∃ b us g' n', 1 ≤ b ∧ b ≤ 5 ∧ runDef T p55_law_condition [bx g n, (.d, .int m)] = .ok ((.d, cond b us), [bx g' n', (.d, .int m)]) := by
  obtain ⟨b, us, g2, n2, h1, h55, e2⟩ := hf g' n' m h3 h5
  obtain ⟨vs, g3, n3, C⟩ := draws1 T ht hl b h1 h55 us (some (.d, .int m)) (some (.d, .int 1)) none g2 n2
  have f1 : decide ((1 : Int) = 0) = false := by decide
  refine ⟨b, vs, g3, n3, h1, h55, run_rt (ρ := [some (bx g3 n3), some (.d, .int m), some (.d, .int 1), none, some (.d, .int b), some (.d, .tuple (ofTups us)), some (.l .d, .list (ofTups vs)), none, none]) ⟨rfl, by decide, rfl⟩ ?_ rfl⟩
  show execSs T p55_law_condition.body [some (bx g n), some (.d, .int m), none, none, none, none, none, none, none] = _
  unfold p55_law_condition
  unfold bx cond at *
  simp -dsimp -implicitDefEqProofs only [ex_nil, ex_cons, then_nx, then_rt, then_ct, then_bk, ex_asg, ex_asgT, ex_par, ex_ret, ex_retMv, ex_ite, ex_brk, ex_cont, ev_var, ev_int, ev_bl, ev_non, ev_str, ev_dct, ev_tup, ev_lst, ev_op, ev_call, ev_and, ev_or, ev_not, ev_ifx, evs_nil, evs_cons, esv_nil, esv_cons, eas_nil, eas_var, eas_op, eas_int, eas_bl, eas_non, eas_str, eas_tup, eas_lst, eas_dct, eas_call, eas_and, eas_or, eas_not, eas_ifx, eas_comp, eas_slc, ex_put, putIn_l, ixN0, ixN1, fill_nil, fill_inl, fill_inr, asB_ok, bnd_ok, bnd_no, iff_t, iff_f, op_add, op_sub, op_neg, op_mul, op_fdiv, op_mod, op_gt, op_ge, op_lt, op_le, op_int, op_abs, op_min2, op_max2, op_lenL, op_lenS, op_lenD, op_lenT, op_tupL, op_tupD, op_ixL, op_ixD, op_ixS, op_ixT, atI0, atI1, setS_in, readV_eq, readO_d, readO_l, get_eq, getO_some, ixO_some, putO_some, List.getElem?_cons_zero, List.getElem?_cons_succ, List.set_cons_zero, List.set_cons_succ, List.length_cons, List.length_nil, Nat.reduceAdd, Nat.reduceLT, ne_eq, not_false_eq_true, and_self, true_and, and_true, own_l, own_d, own_s, own_r, own_n, nd_nil, nd_one, pb_l, pb_s, pb_d, pb_r, pb_n, noS_d, noS_l, op_eqI, decide_true, f1, e, e2, bindT_tup, bindTs_cons, bindTs_nil, bindT_var, C, op_tupL, op_tupD]
theorem draws2 (T : Tbl) (ht : TakeOk T) (hl : LotsOk T) (b : Nat) (h1 : 1 ≤ b) (h5 : b ≤ 5) (q : Int) (q1 : 0 < q) (q2 : q < 1073741824) (m x3 : Option SV) (w : Int) (g n : Int) :
    ∃ vs g' n', evalE T (.comp (.var 7) [7] (.var 7) (.e (.call 51 [.var 4])) (.op .eq [.op .eq [.call 12 [.var 0, .var 8], .int 0], .op .eq [.var 2, .int 2]])) [some (bx g n), m, some (.d, .int w), x3, some (.d, .int b), none, none, none, some (.d, .int q)] = .ok ((.l .d, .list (ofTups vs)), [some (bx g' n'), m, some (.d, .int w), x3, some (.d, .int b), none, none, none, some (.d, .int q)]) := by
  have hl := hl b h1 h5
  obtain ⟨vs, r2, e, g', n', rfl⟩ := comp_tups_inv (T := T) (v := 7) (it := .e (.call 51 [.var 4])) (cond := .op .eq [.op .eq [.call 12 [.var 0, .var 8], .int 0], .op .eq [.var 2, .int 2]]) (ts := LL b) (ρ := [some (bx g n), m, some (.d, .int w), x3, some (.d, .int b), none, none, none, some (.d, .int q)]) (ρ1 := [some (bx g n), m, some (.d, .int w), x3, some (.d, .int b), none, none, none, some (.d, .int q)])
    (Inv := fun r => ∃ g n, r = [some (bx g n), m, some (.d, .int w), x3, some (.d, .int b), none, none, none, some (.d, .int q)]) (by
      rw [ei_e]
      unfold bx
      simp -dsimp -implicitDefEqProofs only [ex_nil, ex_cons, then_nx, then_rt, then_ct, then_bk, ex_asg, ex_asgT, ex_par, ex_ret, ex_retMv, ex_ite, ex_brk, ex_cont, ev_var, ev_int, ev_bl, ev_non, ev_str, ev_dct, ev_tup, ev_lst, ev_op, ev_call, ev_and, ev_or, ev_not, ev_ifx, evs_nil, evs_cons, esv_nil, esv_cons, eas_nil, eas_var, eas_op, eas_int, eas_bl, eas_non, eas_str, eas_tup, eas_lst, eas_dct, eas_call, eas_and, eas_or, eas_not, eas_ifx, eas_comp, eas_slc, ex_put, putIn_l, ixN0, ixN1, fill_nil, fill_inl, fill_inr, asB_ok, bnd_ok, bnd_no, iff_t, iff_f, op_add, op_sub, op_neg, op_mul, op_fdiv, op_mod, op_gt, op_ge, op_lt, op_le, op_int, op_abs, op_min2, op_max2, op_lenL, op_lenS, op_lenD, op_lenT, op_tupL, op_tupD, op_ixL, op_ixD, op_ixS, op_ixT, atI0, atI1, setS_in, readV_eq, readO_d, readO_l, get_eq, getO_some, ixO_some, putO_some, List.getElem?_cons_zero, List.getElem?_cons_succ, List.set_cons_zero, List.set_cons_succ, List.length_cons, List.length_nil, Nat.reduceAdd, Nat.reduceLT, ne_eq, not_false_eq_true, and_self, true_and, and_true, own_d, own_n, nd_nil, pb_d, pb_n, noS_l, hl]
      rfl) rfl rfl ⟨g, n, rfl⟩ (fun r hr => by obtain ⟨g, n, rfl⟩ := hr; show 7 < 9; decide) fun t _ r hr => by
    obtain ⟨g, n, rfl⟩ := hr
    obtain ⟨d, g', n', e, _, _⟩ := ht g n q q1 q2
    refine ⟨decide (d = 0) == decide (w = 2), [some (bx g' n'), m, some (.d, .int w), x3, some (.d, .int b), none, none, some (.d, .tuple (ofInts t)), some (.d, .int q)], ?_, rfl, g', n', rfl⟩
    show evalE T _ [some (bx g n), m, some (.d, .int w), x3, some (.d, .int b), none, none, some (.d, .tuple (ofInts t)), some (.d, .int q)] = _
    unfold bx at *
    simp -dsimp -implicitDefEqProofs only [ex_nil, ex_cons, then_nx, then_rt, then_ct, then_bk, ex_asg, ex_asgT, ex_par, ex_ret, ex_retMv, ex_ite, ex_brk, ex_cont, ev_var, ev_int, ev_bl, ev_non, ev_str, ev_dct, ev_tup, ev_lst, ev_op, ev_call, ev_and, ev_or, ev_not, ev_ifx, evs_nil, evs_cons, esv_nil, esv_cons, eas_nil, eas_var, eas_op, eas_int, eas_bl, eas_non, eas_str, eas_tup, eas_lst, eas_dct, eas_call, eas_and, eas_or, eas_not, eas_ifx, eas_comp, eas_slc, ex_put, putIn_l, ixN0, ixN1, fill_nil, fill_inl, fill_inr, asB_ok, bnd_ok, bnd_no, iff_t, iff_f, op_add, op_sub, op_neg, op_mul, op_fdiv, op_mod, op_gt, op_ge, op_lt, op_le, op_int, op_abs, op_min2, op_max2, op_lenL, op_lenS, op_lenD, op_lenT, op_tupL, op_tupD, op_ixL, op_ixD, op_ixS, op_ixT, atI0, atI1, setS_in, readV_eq, readO_d, readO_l, get_eq, getO_some, ixO_some, putO_some, List.getElem?_cons_zero, List.getElem?_cons_succ, List.set_cons_zero, List.set_cons_succ, List.length_cons, List.length_nil, Nat.reduceAdd, Nat.reduceLT, ne_eq, not_false_eq_true, and_self, true_and, and_true, own_l, own_d, own_s, own_r, own_n, nd_nil, nd_one, pb_l, pb_s, pb_d, pb_r, pb_n, noS_d, noS_l, op_eqI, op_eqB, e]
  exact ⟨vs, g', n', e⟩
theorem cd2 (T : Tbl) (hp : PickOk T) (hl : LotsOk T) (ht : TakeOk T) (g n m : Int) (h3 : 3 ≤ m) (h5 : m ≤ 5) (w g' n' : Int) (e : T.f 12 [bx g n, (.d, .int 4)] = .ok ((.d, .int w), [bx g' n', (.d, .int 4)])) (w0 : w ≠ 0) (w1 : w ≠ 1) : ∃ b us g' n', 1 ≤ b ∧ b ≤ 5 ∧ runDef T p55_law_condition [bx g n, (.d, .int m)] = .ok ((.d, cond b us), [bx g' n', (.d, .int m)]) := by
  obtain ⟨d, g2, n2, e2, d0, d1⟩ := ht g' n' m (by omega) (by omega)
  obtain ⟨x, g3, n3, e3, hx⟩ := hp g2 n2 (ofInts [2, 2, 3, 5]) (fun h => nomatch h) (by decide)
  obtain ⟨q, hq, rfl⟩ := List.mem_map.mp hx
  have hq : 0 < q ∧ q < 1073741824 := by
    rcases List.mem_cons.mp hq with rfl | hq
    · decide
    rcases List.mem_cons.mp hq with rfl | hq
    · decide
    rcases List.mem_cons.mp hq with rfl | hq
    · decide
    rcases List.mem_cons.mp hq with rfl | hq
    · decide
    cases hq
  obtain ⟨b, hb⟩ : ∃ b : Nat, (b : Int) = 1 + d := ⟨(1 + d).toNat, by omega⟩
  obtain ⟨vs, g4, n4, C⟩ := draws2 T ht hl b (by omega) (by omega) q hq.1 hq.2 (some (.d, .int m)) none w g3 n3
  rw [hb] at C
  have e3 : T.f 13 [bx g2 n2, (.d, .list [.int 2, .int 2, .int 3, .int 5])] = .ok ((.d, .int q), [bx g3 n3, (.d, .list [.int 2, .int 2, .int 3, .int 5])]) := e3
  have f0 := decide_eq_false w0
  have f1 := decide_eq_false w1
  refine ⟨b, vs, g4, n4, by omega, by omega, run_rt (ρ := [some (bx g4 n4), some (.d, .int m), some (.d, .int w), none, some (.d, .int (1 + d)), none, none, none, some (.d, .int q)]) ⟨rfl, by decide, rfl⟩ ?_ rfl⟩
  show execSs T p55_law_condition.body [some (bx g n), some (.d, .int m), none, none, none, none, none, none, none] = _
  unfold cond
  rw [hb]
  unfold p55_law_condition
  unfold bx at *
  simp -dsimp -implicitDefEqProofs only [ex_nil, ex_cons, then_nx, then_rt, then_ct, then_bk, ex_asg, ex_asgT, ex_par, ex_ret, ex_retMv, ex_ite, ex_brk, ex_cont, ev_var, ev_int, ev_bl, ev_non, ev_str, ev_dct, ev_tup, ev_lst, ev_op, ev_call, ev_and, ev_or, ev_not, ev_ifx, evs_nil, evs_cons, esv_nil, esv_cons, eas_nil, eas_var, eas_op, eas_int, eas_bl, eas_non, eas_str, eas_tup, eas_lst, eas_dct, eas_call, eas_and, eas_or, eas_not, eas_ifx, eas_comp, eas_slc, ex_put, putIn_l, ixN0, ixN1, fill_nil, fill_inl, fill_inr, asB_ok, bnd_ok, bnd_no, iff_t, iff_f, op_add, op_sub, op_neg, op_mul, op_fdiv, op_mod, op_gt, op_ge, op_lt, op_le, op_int, op_abs, op_min2, op_max2, op_lenL, op_lenS, op_lenD, op_lenT, op_tupL, op_tupD, op_ixL, op_ixD, op_ixS, op_ixT, atI0, atI1, setS_in, readV_eq, readO_d, readO_l, get_eq, getO_some, ixO_some, putO_some, List.getElem?_cons_zero, List.getElem?_cons_succ, List.set_cons_zero, List.set_cons_succ, List.length_cons, List.length_nil, Nat.reduceAdd, Nat.reduceLT, ne_eq, not_false_eq_true, and_self, true_and, and_true, own_l, own_d, own_s, own_r, own_n, nd_nil, nd_one, pb_l, pb_s, pb_d, pb_r, pb_n, noS_d, noS_l, op_eqI, f0, f1, e, e2, e3, setAll_nil, setAll_cons, C, op_tupL, op_tupD]
theorem condition_run (T : Tbl) (hf : FormOk T) (ho : OtherOk T) (hp : PickOk T) (hl : LotsOk T) (ht : TakeOk T) (g n m : Int) (h3 : 3 ≤ m) (h5 : m ≤ 5) : ∃ b us g' n', 1 ≤ b ∧ b ≤ 5 ∧ runDef T p55_law_condition [bx g n, (.d, .int m)] = .ok ((.d, cond b us), [bx g' n', (.d, .int m)]) := by
  obtain ⟨w, g', n', e, _, _⟩ := ht g n 4 (by decide) (by decide)
  by_cases w0 : w = 0
  · subst w0
    exact cd0 T hf ho ht g n m h3 h5 g' n' e
  · by_cases w1 : w = 1
    · subst w1
      exact cd1 T hf hl ht g n m h3 h5 g' n' e
    · exact cd2 T hp hl ht g n m h3 h5 w g' n' e w0 w1
def ConditionOk (T : Tbl) : Prop := ∀ (g n m : Int), 3 ≤ m → m ≤ 5 → ∃ b us g' n', 1 ≤ b ∧ b ≤ 5 ∧ T.f 55 [bx g n, (.d, .int m)] = .ok ((.d, cond b us), [bx g' n', (.d, .int m)])
end K02
end PL
end

section
set_option Elab.async false
set_option linter.all false
set_option maxRecDepth 100000
set_option autoImplicit false
/-! PW6: dicts by tuples; three lists side by side. -/
namespace PL
open PySem
variable {T : Tbl} {ρ : Env}
theorem small_int {i : Int} (h0 : 0 ≤ i) (h : i ≤ 1000000) : small i = true := by
  unfold small
  have a : decide (-(2 ^ 62) ≤ i) = true := decide_eq_true (by omega)
  have b : decide (i < 2 ^ 62) = true := decide_eq_true (by omega)
  rw [a, b]
  rfl
theorem atomKeys_ints : ∀ {t : List Int}, atomKeys (ofInts t) = some (t.map Sum.inl)
  | [] => rfl
  | i :: t => by
    show (match atomKey (.int i), atomKeys (ofInts t) with
      | some a, some b => some (a :: b)
      | _, _ => none) = _
    rw [atomKeys_ints]
    rfl
theorem dkey_tup {t : List Int} : dkey (.tuple (ofInts t)) = some (.t (t.map Sum.inl)) := by
  show (atomKeys (ofInts t)).map DKey.t = _
  rw [atomKeys_ints]
  rfl
theorem tkey_inj {a b : List Int} (h : some (DKey.t (a.map Sum.inl)) = some (DKey.t (b.map (Sum.inl : Int → Key)))) : a = b := by
  injection h with h
  injection h with h
  exact (List.map_inj_right (fun x y h => by injection h)).mp h
/-- a dict that tells of each of some tuples what goes with it -/
def kvsOf (F : List Int → D) (ms : List (List Int)) : List (D × D) := ms.map fun t => (.tuple (ofInts t), F t)
theorem sort_tup {F : List Int → D} {ms : List (List Int)} {t : List Int} : sortOk (kvsOf F ms) (.t (t.map Sum.inl)) = true := by
  cases ms with
  | nil => rfl
  | cons m ms =>
    show (match dkey (.tuple (ofInts m)), DKey.t (t.map Sum.inl) with
      | some (.a _), .a _ => true
      | some (.t _), .t _ => true
      | _, _ => false) = true
    rw [dkey_tup]
theorem lookK_tup {F : List Int → D} {t : List Int} : ∀ {ms : List (List Int)}, lookK (kvsOf F ms) (.t (t.map Sum.inl)) = if t ∈ ms then some (F t) else none
  | [] => by rw [if_neg (by exact List.not_mem_nil)]; rfl
  | m :: ms => by
    show (if dkey (.tuple (ofInts m)) = some (DKey.t (t.map Sum.inl)) then some (F m) else lookK (kvsOf F ms) _) = _
    rw [dkey_tup]
    by_cases h : m = t
    · subst h
      rw [if_pos rfl, if_pos List.mem_cons_self]
    · rw [if_neg (fun e => h (tkey_inj e)), lookK_tup]
      by_cases h2 : t ∈ ms
      · rw [if_pos h2, if_pos (List.mem_cons_of_mem _ h2)]
      · rw [if_neg h2, if_neg (fun e => by
          rcases List.mem_cons.mp e with rfl | e
          · exact h rfl
          · exact h2 e)]
theorem look_tup {F : List Int → D} {t : List Int} {ms : List (List Int)} : look (kvsOf F ms) (.tuple (ofInts t)) = .ok (if t ∈ ms then some (F t) else none) := by
  unfold look
  rw [dkey_tup]
  show (if sortOk (kvsOf F ms) (DKey.t (t.map Sum.inl)) = true then R.ok (lookK _ _) else .no) = _
  rw [if_pos sort_tup, lookK_tup]
theorem op_ninM {F : List Int → D} {t : List Int} {ms : List (List Int)} : opV .notin [(.d, .tuple (ofInts t)), (.m .d, .dict (kvsOf F ms))] = .ok (.d, .bool (!decide (t ∈ ms))) := by
  show R.bnd (R.bnd (look (kvsOf F ms) (.tuple (ofInts t))) _) _ = _
  rw [look_tup]
  by_cases h : t ∈ ms
  · rw [if_pos h, decide_eq_true h]
    rfl
  · rw [if_neg h, decide_eq_false h]
    rfl
theorem op_ixM {F : List Int → D} {t : List Int} {ms : List (List Int)} (h : t ∈ ms) : opV .ix [(.m .d, .dict (kvsOf F ms)), (.d, .tuple (ofInts t))] = .ok (.d, F t) := by
  show R.bnd (look (kvsOf F ms) (.tuple (ofInts t))) _ = _
  rw [look_tup, if_pos h]
  rfl
theorem any_tup {F : List Int → D} {t : List Int} {ms : List (List Int)} : ((kvsOf F ms).any fun p => decide (dkey p.1 = some (DKey.t (t.map Sum.inl)))) = decide (t ∈ ms) := by
  unfold kvsOf
  rw [List.any_map, Bool.eq_iff_iff, List.any_eq_true, decide_eq_true_iff]
  constructor
  · rintro ⟨m, hm, e⟩
    have e : dkey (.tuple (ofInts m)) = some (DKey.t (t.map Sum.inl)) := of_decide_eq_true e
    rw [dkey_tup] at e
    exact tkey_inj e ▸ hm
  · exact fun h => ⟨t, h, decide_eq_true dkey_tup⟩
theorem putIn_tup {j : Nat} {v : SV} {F : List Int → D} {t : List Int} {ms : List (List Int)} (h : t ∉ ms) (hl : ms.length ≤ 1000000) (hv : v.2 = F t) : putIn ρ j v (.d, .tuple (ofInts t)) (.m .d, .dict (kvsOf F ms)) = .ok (.nx (ρ.set j (some (.m .d, .dict (kvsOf F (ms ++ [t])))))) := by
  rw [putIn_m (q := .t (t.map Sum.inl)) dkey_tup (by
    rw [sort_tup, Bool.true_and]
    refine decide_eq_true (Nat.lt_of_le_of_lt (m := 1000000) ?_ (by decide))
    unfold kvsOf
    rw [List.length_map]
    exact hl)]
  unfold putK
  rw [any_tup, decide_eq_false h, if_neg (by decide), hv]
  unfold kvsOf
  rw [List.map_append]
  rfl
/-! ### three lists -/
theorem zip3_app {as' bs' : List D} : ∀ {cs as bs : List D}, cs.length ≤ as.length → cs.length ≤ bs.length → zip3 (as ++ as') (bs ++ bs') cs = zip3 as bs cs
  | [], as, bs, _, _ => by
    have e : ∀ xs ys : List D, zip3 xs ys [] = [] := fun xs ys => by cases xs <;> cases ys <;> rfl
    rw [e, e]
  | c :: cs, a :: as, b :: bs, h1, h2 => by
    show _ :: zip3 (as ++ as') (bs ++ bs') cs = _ :: zip3 as bs cs
    rw [zip3_app (Nat.le_of_succ_le_succ h1) (Nat.le_of_succ_le_succ h2)]
theorem zip3_snoc {a b c : D} : ∀ {cs as bs : List D}, as[cs.length]? = some a → bs[cs.length]? = some b → zip3 as bs (cs ++ [c]) = zip3 as bs cs ++ [.tuple [a, b, c]]
  | [], x :: as, y :: bs, h1, h2 => by
    cases h1
    cases h2
    show _ :: zip3 as bs [] = [] ++ [_]
    have e : ∀ xs ys : List D, zip3 xs ys [] = [] := fun xs ys => by cases xs <;> cases ys <;> rfl
    rw [e]
    rfl
  | z :: cs, x :: as, y :: bs, h1, h2 => by
    show _ :: zip3 as bs (cs ++ [c]) = _ :: (zip3 as bs cs ++ _)
    rw [zip3_snoc (as := as) (bs := bs) h1 h2]
theorem zip3_len : ∀ {cs as bs : List D}, cs.length ≤ as.length → cs.length ≤ bs.length → (zip3 as bs cs).length = cs.length
  | [], as, bs, _, _ => by
    have e : ∀ xs ys : List D, zip3 xs ys [] = [] := fun xs ys => by cases xs <;> cases ys <;> rfl
    rw [e]
  | c :: cs, a :: as, b :: bs, h1, h2 => by
    show (zip3 as bs cs).length + 1 = cs.length + 1
    rw [zip3_len (Nat.le_of_succ_le_succ h1) (Nat.le_of_succ_le_succ h2)]
theorem op_zip3 {k1 k2 k3 : Kd} {as bs cs : List D} (h : (flat k1 && flat k2 && flat k3) = true) : opV .listZip3 [(k1, .list as), (k2, .list bs), (k3, .list cs)] = .ok (.l .d, .list (zip3 as bs cs)) := by
  obtain ⟨h, h3⟩ := Bool.and_eq_true_iff.mp h
  obtain ⟨h1, h2⟩ := Bool.and_eq_true_iff.mp h
  show (if ((flat k1 || (isS k1 && false)) && ((flat k2 || (isS k2 && false)) && ((flat k3 || (isS k3 && false)) && true))) = true then _ else _) = _
  rw [h1, h2, h3]
  rfl
/-! ### loops, turn by turn -/
theorem for_nil {turn : D → Env → R Out} {r : Env} : forLoop turn [] r = .ok (.nx r) := (rfl)
theorem for_nx {turn : D → Env → R Out} {x : D} {xs : List D} {r r' : Env} (h : turn x r = .ok (.nx r')) : forLoop turn (x :: xs) r = forLoop turn xs r' := by
  show R.bnd (turn x r) _ = _
  rw [h]
  rfl
theorem for_ct {turn : D → Env → R Out} {x : D} {xs : List D} {r r' : Env} (h : turn x r = .ok (.ct r')) : forLoop turn (x :: xs) r = forLoop turn xs r' := by
  show R.bnd (turn x r) _ = _
  rw [h]
  rfl
theorem for_bk {turn : D → Env → R Out} {x : D} {xs : List D} {r r' : Env} (h : turn x r = .ok (.bk r')) : forLoop turn (x :: xs) r = .ok (.nx r') := by
  show R.bnd (turn x r) _ = _
  rw [h]
  rfl
theorem for_rt {turn : D → Env → R Out} {x : D} {xs : List D} {r r' : Env} {v : SV} (h : turn x r = .ok (.rt v r')) : forLoop turn (x :: xs) r = .ok (.rt v r') := by
  show R.bnd (turn x r) _ = _
  rw [h]
  rfl
theorem while_t {cond : Env → R (Bool × Env)} {body : Env → R Out} {n : Nat} {r r1 r2 : Env} (h : cond r = .ok (true, r1)) (h2 : body r1 = .ok (.nx r2)) : whileLoop cond body (n + 1) r = whileLoop cond body n r2 := by
  show R.bnd (cond r) _ = _
  rw [h]
  show R.bnd (body r1) _ = _
  rw [h2]
  rfl
theorem while_f {cond : Env → R (Bool × Env)} {body : Env → R Out} {n : Nat} {r r1 : Env} (h : cond r = .ok (false, r1)) : whileLoop cond body (n + 1) r = .ok (.nx r1) := by
  show R.bnd (cond r) _ = _
  rw [h]
  rfl
end PL
end

section
set_option Elab.async false
set_option linter.all false
set_option maxRecDepth 100000
set_option autoImplicit false
/-! PL02h: the split tree, both ways. -/
namespace PL
open PySem
namespace K02
/-! ### row by row -/
section
variable (F : List Int → List (List Int)) (t0 : List Int)
def news (q : List (List Int × D)) (k : Nat) : List (List Int × D) := match q[k]? with
  | some p => (F p.1).map fun o => (o, .int k)
  | none => []
def qs : Nat → List (List Int × D)
  | 0 => [(t0, .none)]
  | k + 1 => qs k ++ news F (qs k) k
def chs : Nat → List D
  | 0 => []
  | k + 1 => chs k ++ [.tuple (rangeUp (qs F t0 k).length ((qs F t0 k).length + (news F (qs F t0 k) k).length : Nat))]
def lotsOf (q : List (List Int × D)) : List D := q.map fun p => .tuple (ofInts p.1)
def parsOf (q : List (List Int × D)) : List D := q.map fun p => p.2
def rowsOf (q : List (List Int × D)) : List D := q.map fun p => .tuple [.tuple (ofInts p.1), p.2]
def told (k : Nat) : List D := zip3 (lotsOf (qs F t0 k)) (parsOf (qs F t0 k)) (chs F t0 k)
theorem chs_len : ∀ k, (chs F t0 k).length = k
  | 0 => rfl
  | k + 1 => by
    show (chs F t0 k ++ [_]).length = _
    rw [List.length_append, chs_len k]
    rfl
theorem told_len {k : Nat} (h : k ≤ (qs F t0 k).length) : (told F t0 k).length = k := by
  unfold told
  rw [zip3_len, chs_len]
  · rw [chs_len]; unfold lotsOf; rw [List.length_map]; exact h
  · rw [chs_len]; unfold parsOf; rw [List.length_map]; exact h
theorem told_succ {k : Nat} {p : List Int × D} (h : (qs F t0 k)[k]? = some p) : told F t0 (k + 1) = told F t0 k ++ [.tuple [.tuple (ofInts p.1), p.2, .tuple (rangeUp (qs F t0 k).length ((qs F t0 k).length + (F p.1).length : Nat))]] := by
  have hk : k < (qs F t0 k).length := by
    rcases Nat.lt_or_ge k (qs F t0 k).length with h1 | h1
    · exact h1
    · rw [List.getElem?_eq_none h1] at h
      cases h
  have hn : news F (qs F t0 k) k = (F p.1).map fun o => (o, .int k) := by
    unfold news
    rw [h]
  have e : (qs F t0 (k + 1)) = qs F t0 k ++ news F (qs F t0 k) k := rfl
  have e2 : (chs F t0 (k + 1)) = chs F t0 k ++ [.tuple (rangeUp (qs F t0 k).length ((qs F t0 k).length + (news F (qs F t0 k) k).length : Nat))] := rfl
  have e3 : (news F (qs F t0 k) k).length = (F p.1).length := by rw [hn, List.length_map]
  have l1 : (lotsOf (qs F t0 k)).length = (qs F t0 k).length := List.length_map ..
  have l2 : (parsOf (qs F t0 k)).length = (qs F t0 k).length := List.length_map ..
  unfold told
  rw [e2, e3, e]
  have a1 : lotsOf (qs F t0 k ++ news F (qs F t0 k) k) = lotsOf (qs F t0 k) ++ lotsOf (news F (qs F t0 k) k) := List.map_append
  have a2 : parsOf (qs F t0 k ++ news F (qs F t0 k) k) = parsOf (qs F t0 k) ++ parsOf (news F (qs F t0 k) k) := List.map_append
  rw [a1, a2, zip3_app (by rw [List.length_append, chs_len, l1]; exact hk) (by rw [List.length_append, chs_len, l2]; exact hk)]
  refine zip3_snoc ?_ ?_
  · unfold lotsOf
    rw [chs_len, List.getElem?_map, h]
    rfl
  · unfold parsOf
    rw [chs_len, List.getElem?_map, h]
    rfl
variable {F} {t0}
theorem qs_in {P : List Int → Prop} (h0 : P t0) (hF : ∀ t, ∀ o ∈ F t, P o) : ∀ k, ∀ p ∈ qs F t0 k, P p.1
  | 0, p, hp => by
    cases List.mem_singleton.mp hp
    exact h0
  | k + 1, p, hp => by
    rcases List.mem_append.mp hp with hp | hp
    · exact qs_in h0 hF k p hp
    · unfold news at hp
      cases e : (qs F t0 k)[k]? with
      | none => rw [e] at hp; cases hp
      | some q =>
        rw [e] at hp
        obtain ⟨o, ho, rfl⟩ := List.mem_map.mp hp
        exact hF _ o ho
theorem qs_len {m : Nat} (hF : ∀ t, (F t).length ≤ m) : ∀ k, (qs F t0 k).length ≤ 1 + m * k
  | 0 => by show 1 ≤ _; omega
  | k + 1 => by
    show (qs F t0 k ++ news F (qs F t0 k) k).length ≤ _
    have h1 := qs_len hF k
    have h2 : (news F (qs F t0 k) k).length ≤ m := by
      unfold news
      split
      · rw [List.length_map]; exact hF _
      · exact Nat.zero_le _
    rw [List.length_append, Nat.mul_succ]
    omega
theorem news_eq {k : Nat} {p : List Int × D} (h : (qs F t0 k)[k]? = some p) : news F (qs F t0 k) k = (F p.1).map fun o => (o, .int k) := by
  unfold news
  rw [h]
end
/-! ### the law's -/
def LchOk (T : Tbl) : Prop := ∀ (b : Nat), 1 ≤ b → b ≤ 5 → ∀ (ts : List (List Int)) (t : List Int), T.f 56 [(.d, cond b ts), (.d, .tuple (ofInts t))] = .ok ((.l .d, .list (ofTups (kids b ts t))), [(.d, cond b ts), (.d, .tuple (ofInts t))])
def GoOk (T : Tbl) : Prop := ∀ (b : Nat), 1 ≤ b → b ≤ 5 → ∀ (ts : List (List Int)), ∀ t ∈ LL b, T.f 47 [(.d, cond b ts), (.d, .tuple (ofInts t))] = .ok ((.d, .tuple (ofTups (kids b ts t))), [(.d, cond b ts), (.d, .tuple (ofInts t))])
def treeB : List PS := [.ite (.op .eq [.var 4, .op .len [.var 1]]) [.brk] [], .asg (.tup [.var 5, .var 6]) (.op .ix [.var 1, .var 4]), .ite (.op .notin [.var 5, .var 3]) [.put 3 (.var 5) (.call 56 [.var 0, .var 5])] [], .app 2 (.tup [.var 5, .var 6, .op (.rangeL true 2) [.op .len [.var 1], .op .add [.op .len [.var 1], .op .len [.op .ix [.var 3, .var 5]]]]]), .asg (.var 1) (.op .add [.var 1, .comp (.tup [.var 7, .op .int [.var 4]]) [7] (.var 7) (.e (.op .ix [.var 3, .var 5])) (.bl true)])]
theorem tree_turn (T : Tbl) (c : D) (rows tl : List D) (F : List Int → List (List Int)) (ms : List (List Int)) (kk L m : Int) (t : List Int) (par : D) (x5 x6 : Option SV)
    (hL : (rows.length : Int) = L) (hm : ((ofTups (F t)).length : Int) = m) (hne : kk ≠ L) (hat : atI rows kk = some (.tuple [.tuple (ofInts t), par])) (hc : T.f 56 [(.d, c), (.d, .tuple (ofInts t))] = .ok ((.l .d, .list (ofTups (F t))), [(.d, c), (.d, .tuple (ofInts t))]))
    (h1 : ms.length ≤ 1000000) (h2 : L ≤ 500000) (h3 : m ≤ 500000) (h4 : tl.length ≤ 1000000) :
    ∃ ms', ms'.length ≤ ms.length + 1 ∧ execSs T treeB [some (.d, c), some (.l .d, .list rows), some (.l .d, .list tl), some (.m .d, .dict (kvsOf (fun t => .list (ofTups (F t))) ms)), some (.d, .int kk), x5, x6, none] = .ok (.nx [some (.d, c), some (.l .d, .list (rows ++ (ofTups (F t)).map fun o => .tuple [o, .int kk])), some (.l .d, .list (tl ++ [.tuple [.tuple (ofInts t), par, .tuple (rangeUp L (L + m))]])), some (.m .d, .dict (kvsOf (fun t => .list (ofTups (F t))) ms')), some (.d, .int kk), some (.d, .tuple (ofInts t)), some (.d, par), none]) := by
  have f1 := decide_eq_false hne
  have G : ∀ ms', t ∈ ms' → execSs T (treeB.drop 3) [some (.d, c), some (.l .d, .list rows), some (.l .d, .list tl), some (.m .d, .dict (kvsOf (fun t => .list (ofTups (F t))) ms')), some (.d, .int kk), some (.d, .tuple (ofInts t)), some (.d, par), none] = .ok (.nx [some (.d, c), some (.l .d, .list (rows ++ (ofTups (F t)).map fun o => .tuple [o, .int kk])), some (.l .d, .list (tl ++ [.tuple [.tuple (ofInts t), par, .tuple (rangeUp L (L + m))]])), some (.m .d, .dict (kvsOf (fun t => .list (ofTups (F t))) ms')), some (.d, .int kk), some (.d, .tuple (ofInts t)), some (.d, par), none]) := by
    intro ms' hm'
    have hr : opV (.rangeL true 2) [(.d, .int L), (.d, .int (L + m))] = .ok (.d, .tuple (rangeUp L (L + m))) := op_rangeT2 (by
      rw [small_int (by omega) (by omega), small_int (by omega) (by omega), decide_eq_true (cap_le (by omega))]
      rfl)
    have ha : tl.length < sizeCap := Nat.lt_of_le_of_lt h4 (by decide)
    have hx := op_ixM (F := fun t => .list (ofTups (F t))) hm'
    have C : ∀ q : List D, evalE T (.comp (.tup [.var 7, .op .int [.var 4]]) [7] (.var 7) (.e (.op .ix [.var 3, .var 5])) (.bl true)) [some (.d, c), some (.l .d, .list rows), some (.l .d, .list q), some (.m .d, .dict (kvsOf (fun t => .list (ofTups (F t))) ms')), some (.d, .int kk), some (.d, .tuple (ofInts t)), some (.d, par), none] = .ok ((.l .d, .list ((ofTups (F t)).map fun o => .tuple [o, .int kk])), [some (.d, c), some (.l .d, .list rows), some (.l .d, .list q), some (.m .d, .dict (kvsOf (fun t => .list (ofTups (F t))) ms')), some (.d, .int kk), some (.d, .tuple (ofInts t)), some (.d, par), none]) := by
      intro q
      refine (comp_pure (p := fun _ => true) (items := ofTups (F t)) (g := fun o => .tuple [o, .int kk]) (ρ1 := [some (.d, c), some (.l .d, .list rows), some (.l .d, .list q), some (.m .d, .dict (kvsOf (fun t => .list (ofTups (F t))) ms')), some (.d, .int kk), some (.d, .tuple (ofInts t)), some (.d, par), none]) ?_ rfl rfl (by show 7 < 8; decide) (fun _ _ => rfl) fun o _ _ => ⟨.d, ?_⟩).trans (by rw [List.filter_eq_self.mpr fun _ _ => rfl])
      · rw [ei_e]
        simp -dsimp -implicitDefEqProofs only [ex_nil, ex_cons, then_nx, then_rt, then_ct, then_bk, ex_asg, ex_asgT, ex_par, ex_ret, ex_retMv, ex_ite, ex_brk, ex_cont, ev_var, ev_int, ev_bl, ev_non, ev_str, ev_dct, ev_tup, ev_lst, ev_op, ev_call, ev_and, ev_or, ev_not, ev_ifx, evs_nil, evs_cons, esv_nil, esv_cons, eas_nil, eas_var, eas_op, eas_int, eas_bl, eas_non, eas_str, eas_tup, eas_lst, eas_dct, eas_call, eas_and, eas_or, eas_not, eas_ifx, eas_comp, eas_slc, ex_put, putIn_l, ixN0, ixN1, fill_nil, fill_inl, fill_inr, asB_ok, bnd_ok, bnd_no, iff_t, iff_f, op_add, op_sub, op_neg, op_mul, op_fdiv, op_mod, op_gt, op_ge, op_lt, op_le, op_int, op_abs, op_min2, op_max2, op_lenL, op_lenS, op_lenD, op_lenT, op_tupL, op_tupD, op_ixL, op_ixD, op_ixS, op_ixT, atI0, atI1, setS_in, readV_eq, readO_d, readO_l, get_eq, getO_some, ixO_some, putO_some, List.getElem?_cons_zero, List.getElem?_cons_succ, List.set_cons_zero, List.set_cons_succ, List.length_cons, List.length_nil, Nat.reduceAdd, Nat.reduceLT, ne_eq, not_false_eq_true, and_self, true_and, and_true, hx]
        rfl
      · show evalE T _ [some (.d, c), some (.l .d, .list rows), some (.l .d, .list q), some (.m .d, .dict (kvsOf (fun t => .list (ofTups (F t))) ms')), some (.d, .int kk), some (.d, .tuple (ofInts t)), some (.d, par), some (.d, o)] = R.ok (_, [some (.d, c), some (.l .d, .list rows), some (.l .d, .list q), some (.m .d, .dict (kvsOf (fun t => .list (ofTups (F t))) ms')), some (.d, .int kk), some (.d, .tuple (ofInts t)), some (.d, par), some (.d, o)])
        simp -dsimp -implicitDefEqProofs only [ex_nil, ex_cons, then_nx, then_rt, then_ct, then_bk, ex_asg, ex_asgT, ex_par, ex_ret, ex_retMv, ex_ite, ex_brk, ex_cont, ev_var, ev_int, ev_bl, ev_non, ev_str, ev_dct, ev_tup, ev_lst, ev_op, ev_call, ev_and, ev_or, ev_not, ev_ifx, evs_nil, evs_cons, esv_nil, esv_cons, eas_nil, eas_var, eas_op, eas_int, eas_bl, eas_non, eas_str, eas_tup, eas_lst, eas_dct, eas_call, eas_and, eas_or, eas_not, eas_ifx, eas_comp, eas_slc, ex_put, putIn_l, ixN0, ixN1, fill_nil, fill_inl, fill_inr, asB_ok, bnd_ok, bnd_no, iff_t, iff_f, op_add, op_sub, op_neg, op_mul, op_fdiv, op_mod, op_gt, op_ge, op_lt, op_le, op_int, op_abs, op_min2, op_max2, op_lenL, op_lenS, op_lenD, op_lenT, op_tupL, op_tupD, op_ixL, op_ixD, op_ixS, op_ixT, atI0, atI1, setS_in, readV_eq, readO_d, readO_l, get_eq, getO_some, ixO_some, putO_some, List.getElem?_cons_zero, List.getElem?_cons_succ, List.set_cons_zero, List.set_cons_succ, List.length_cons, List.length_nil, Nat.reduceAdd, Nat.reduceLT, ne_eq, not_false_eq_true, and_self, true_and, and_true]
    have hs : opV .add [(.l .d, .list rows), (.d, .list ((ofTups (F t)).map fun o => .tuple [o, .int kk]))] = .ok (.l .d, .list (rows ++ (ofTups (F t)).map fun o => .tuple [o, .int kk])) := op_addLL (by
      rw [List.length_map]
      exact cap_le (by omega))
    unfold treeB
    rw [List.drop_succ_cons, List.drop_succ_cons, List.drop_succ_cons, List.drop_zero]
    simp -dsimp -implicitDefEqProofs only [ex_nil, ex_cons, then_nx, then_rt, then_ct, then_bk, ex_asg, ex_asgT, ex_par, ex_ret, ex_retMv, ex_ite, ex_brk, ex_cont, ev_var, ev_int, ev_bl, ev_non, ev_str, ev_dct, ev_tup, ev_lst, ev_op, ev_call, ev_and, ev_or, ev_not, ev_ifx, evs_nil, evs_cons, esv_nil, esv_cons, eas_nil, eas_var, eas_op, eas_int, eas_bl, eas_non, eas_str, eas_tup, eas_lst, eas_dct, eas_call, eas_and, eas_or, eas_not, eas_ifx, eas_comp, eas_slc, ex_put, putIn_l, ixN0, ixN1, fill_nil, fill_inl, fill_inr, asB_ok, bnd_ok, bnd_no, iff_t, iff_f, op_add, op_sub, op_neg, op_mul, op_fdiv, op_mod, op_gt, op_ge, op_lt, op_le, op_int, op_abs, op_min2, op_max2, op_lenL, op_lenS, op_lenD, op_lenT, op_tupL, op_tupD, op_ixL, op_ixD, op_ixS, op_ixT, atI0, atI1, setS_in, readV_eq, readO_d, readO_l, get_eq, getO_some, ixO_some, putO_some, List.getElem?_cons_zero, List.getElem?_cons_succ, List.set_cons_zero, List.set_cons_succ, List.length_cons, List.length_nil, Nat.reduceAdd, Nat.reduceLT, ne_eq, not_false_eq_true, and_self, true_and, and_true, ex_app, isLst_l, hx, hL, hm, hr, appIn_l ha, C, hs]
  have P : execSs T (treeB.take 2) [some (.d, c), some (.l .d, .list rows), some (.l .d, .list tl), some (.m .d, .dict (kvsOf (fun t => .list (ofTups (F t))) ms)), some (.d, .int kk), x5, x6, none] = .ok (.nx [some (.d, c), some (.l .d, .list rows), some (.l .d, .list tl), some (.m .d, .dict (kvsOf (fun t => .list (ofTups (F t))) ms)), some (.d, .int kk), some (.d, .tuple (ofInts t)), some (.d, par), none]) := by
    unfold treeB
    rw [List.take_succ_cons, List.take_succ_cons, List.take_zero]
    simp -dsimp -implicitDefEqProofs only [ex_nil, ex_cons, then_nx, then_rt, then_ct, then_bk, ex_asg, ex_asgT, ex_par, ex_ret, ex_retMv, ex_ite, ex_brk, ex_cont, ev_var, ev_int, ev_bl, ev_non, ev_str, ev_dct, ev_tup, ev_lst, ev_op, ev_call, ev_and, ev_or, ev_not, ev_ifx, evs_nil, evs_cons, esv_nil, esv_cons, eas_nil, eas_var, eas_op, eas_int, eas_bl, eas_non, eas_str, eas_tup, eas_lst, eas_dct, eas_call, eas_and, eas_or, eas_not, eas_ifx, eas_comp, eas_slc, ex_put, putIn_l, ixN0, ixN1, fill_nil, fill_inl, fill_inr, asB_ok, bnd_ok, bnd_no, iff_t, iff_f, op_add, op_sub, op_neg, op_mul, op_fdiv, op_mod, op_gt, op_ge, op_lt, op_le, op_int, op_abs, op_min2, op_max2, op_lenL, op_lenS, op_lenD, op_lenT, op_tupL, op_tupD, op_ixL, op_ixD, op_ixS, op_ixT, atI0, atI1, setS_in, readV_eq, readO_d, readO_l, get_eq, getO_some, ixO_some, putO_some, List.getElem?_cons_zero, List.getElem?_cons_succ, List.set_cons_zero, List.set_cons_succ, List.length_cons, List.length_nil, Nat.reduceAdd, Nat.reduceLT, ne_eq, not_false_eq_true, and_self, true_and, and_true, op_eqI, hL, f1, hat, bindT_tup, bindTs_cons, bindTs_nil, bindT_var]
  have Q : ∃ ms', ms'.length ≤ ms.length + 1 ∧ t ∈ ms' ∧ execSs T ((treeB.drop 2).take 1) [some (.d, c), some (.l .d, .list rows), some (.l .d, .list tl), some (.m .d, .dict (kvsOf (fun t => .list (ofTups (F t))) ms)), some (.d, .int kk), some (.d, .tuple (ofInts t)), some (.d, par), none] = .ok (.nx [some (.d, c), some (.l .d, .list rows), some (.l .d, .list tl), some (.m .d, .dict (kvsOf (fun t => .list (ofTups (F t))) ms')), some (.d, .int kk), some (.d, .tuple (ofInts t)), some (.d, par), none]) := by
    by_cases ht : t ∈ ms
    · have hd := decide_eq_true ht
      refine ⟨ms, Nat.le_succ _, ht, ?_⟩
      unfold treeB
      rw [List.drop_succ_cons, List.drop_succ_cons, List.drop_zero, List.take_succ_cons, List.take_zero]
      simp -dsimp -implicitDefEqProofs only [ex_nil, ex_cons, then_nx, then_rt, then_ct, then_bk, ex_asg, ex_asgT, ex_par, ex_ret, ex_retMv, ex_ite, ex_brk, ex_cont, ev_var, ev_int, ev_bl, ev_non, ev_str, ev_dct, ev_tup, ev_lst, ev_op, ev_call, ev_and, ev_or, ev_not, ev_ifx, evs_nil, evs_cons, esv_nil, esv_cons, eas_nil, eas_var, eas_op, eas_int, eas_bl, eas_non, eas_str, eas_tup, eas_lst, eas_dct, eas_call, eas_and, eas_or, eas_not, eas_ifx, eas_comp, eas_slc, ex_put, putIn_l, ixN0, ixN1, fill_nil, fill_inl, fill_inr, asB_ok, bnd_ok, bnd_no, iff_t, iff_f, op_add, op_sub, op_neg, op_mul, op_fdiv, op_mod, op_gt, op_ge, op_lt, op_le, op_int, op_abs, op_min2, op_max2, op_lenL, op_lenS, op_lenD, op_lenT, op_tupL, op_tupD, op_ixL, op_ixD, op_ixS, op_ixT, atI0, atI1, setS_in, readV_eq, readO_d, readO_l, get_eq, getO_some, ixO_some, putO_some, List.getElem?_cons_zero, List.getElem?_cons_succ, List.set_cons_zero, List.set_cons_succ, List.length_cons, List.length_nil, Nat.reduceAdd, Nat.reduceLT, ne_eq, not_false_eq_true, and_self, true_and, and_true, op_ninM, hd, Bool.not_true]
    · have hd := decide_eq_false ht
      refine ⟨ms ++ [t], by rw [List.length_append]; exact Nat.le_refl _, List.mem_append_right _ List.mem_cons_self, ?_⟩
      have hp : ∀ {ρ : Env}, putIn ρ 3 (.l .d, .list (ofTups (F t))) (.d, .tuple (ofInts t)) (.m .d, .dict (kvsOf (fun t => .list (ofTups (F t))) ms)) = .ok (.nx (ρ.set 3 (some (.m .d, .dict (kvsOf (fun t => .list (ofTups (F t))) (ms ++ [t])))))) := putIn_tup ht h1 rfl
      unfold treeB
      rw [List.drop_succ_cons, List.drop_succ_cons, List.drop_zero, List.take_succ_cons, List.take_zero]
      simp -dsimp -implicitDefEqProofs only [ex_nil, ex_cons, then_nx, then_rt, then_ct, then_bk, ex_asg, ex_asgT, ex_par, ex_ret, ex_retMv, ex_ite, ex_brk, ex_cont, ev_var, ev_int, ev_bl, ev_non, ev_str, ev_dct, ev_tup, ev_lst, ev_op, ev_call, ev_and, ev_or, ev_not, ev_ifx, evs_nil, evs_cons, esv_nil, esv_cons, eas_nil, eas_var, eas_op, eas_int, eas_bl, eas_non, eas_str, eas_tup, eas_lst, eas_dct, eas_call, eas_and, eas_or, eas_not, eas_ifx, eas_comp, eas_slc, ex_put, putIn_l, ixN0, ixN1, fill_nil, fill_inl, fill_inr, asB_ok, bnd_ok, bnd_no, iff_t, iff_f, op_add, op_sub, op_neg, op_mul, op_fdiv, op_mod, op_gt, op_ge, op_lt, op_le, op_int, op_abs, op_min2, op_max2, op_lenL, op_lenS, op_lenD, op_lenT, op_tupL, op_tupD, op_ixL, op_ixD, op_ixS, op_ixT, atI0, atI1, setS_in, readV_eq, readO_d, readO_l, get_eq, getO_some, ixO_some, putO_some, List.getElem?_cons_zero, List.getElem?_cons_succ, List.set_cons_zero, List.set_cons_succ, List.length_cons, List.length_nil, Nat.reduceAdd, Nat.reduceLT, ne_eq, not_false_eq_true, and_self, true_and, and_true, op_ninM, hd, Bool.not_false, own_d, own_n, nd_nil, pb_d, pb_n, noS_l, hc, hp]
  obtain ⟨ms', l', ht', Q⟩ := Q
  refine ⟨ms', l', ?_⟩
  exact (ex_app2 (treeB.take 2) (treeB.drop 2) _ _ P).trans ((ex_app2 ((treeB.drop 2).take 1) (treeB.drop 3) _ _ Q).trans (G ms' ht'))
end K02
end PL
end

section
set_option Elab.async false
set_option linter.all false
set_option maxRecDepth 100000
set_option autoImplicit false
/-! PL02i: the split tree, both ways: the loops. -/
namespace PL
open PySem
namespace K02
theorem atI_some {xs : List D} {k : Nat} {kk : Int} {x : D} (hk : kk = k) (h : xs[k]? = some x) : atI xs kk = some x := by
  have hl : k < xs.length := by
    rcases Nat.lt_or_ge k xs.length with h1 | h1
    · exact h1
    · rw [List.getElem?_eq_none h1] at h
      cases h
  subst hk
  unfold atI ixN
  rw [if_pos (by omega), if_pos (by omega)]
  exact h
theorem tree_loop (T : Tbl) (b : Nat) (h1 : 1 ≤ b) (h5 : b ≤ 5) (ts : List (List Int)) (hc : LchOk T) : ∀ (m k : Nat) (ms : List (List Int)) (x4 x5 x6 : Option SV), k + m = 2000 → ms.length ≤ k → k ≤ (qs (kids b ts) (upto b) k).length → (∀ j < k, j < (qs (kids b ts) (upto b) j).length) →
    ∃ N y3 y4 y5 y6, N ≤ 2000 ∧ (∀ j < N, j < (qs (kids b ts) (upto b) j).length) ∧ N ≤ (qs (kids b ts) (upto b) N).length ∧ ((qs (kids b ts) (upto b) N).length = N ∨ N = 2000) ∧ forLoop (fun x r => (bindT (.var 4) x r).bnd fun r1 => execSs T treeB r1) ((List.range' k m).map fun (i : Nat) => PyData.int (0 + (i : Int))) [some (.d, cond b ts), some (.l .d, .list (rowsOf (qs (kids b ts) (upto b) k))), some (.l .d, .list (told (kids b ts) (upto b) k)), some (.m .d, .dict (kvsOf (fun t => .list (ofTups (kids b ts t))) ms)), x4, x5, x6, none] = .ok (.nx [some (.d, cond b ts), some (.l .d, .list (rowsOf (qs (kids b ts) (upto b) N))), some (.l .d, .list (told (kids b ts) (upto b) N)), y3, y4, y5, y6, none])
  | 0, k, ms, x4, x5, x6, hk, hm, hq, hj => ⟨k, _, x4, x5, x6, by omega, hj, hq, .inr (by omega), rfl⟩
  | m + 1, k, ms, x4, x5, x6, hk, hm, hq, hj => by
    have rl : (rowsOf (qs (kids b ts) (upto b) k)).length = (qs (kids b ts) (upto b) k).length := List.length_map ..
    rw [List.range'_succ, List.map_cons]
    obtain ⟨kk, hkk⟩ : ∃ kk : Int, kk = 0 + (k : Int) := ⟨_, rfl⟩
    rw [← hkk]
    by_cases he : (qs (kids b ts) (upto b) k).length = k
    · refine ⟨k, some (.m .d, .dict (kvsOf (fun t => .list (ofTups (kids b ts t))) ms)), some (.d, .int kk), x5, x6, by omega, hj, hq, .inl he, ?_⟩
      have st : execSs T treeB [some (.d, cond b ts), some (.l .d, .list (rowsOf (qs (kids b ts) (upto b) k))), some (.l .d, .list (told (kids b ts) (upto b) k)), some (.m .d, .dict (kvsOf (fun t => .list (ofTups (kids b ts t))) ms)), some (.d, .int kk), x5, x6, none] = .ok (.bk [some (.d, cond b ts), some (.l .d, .list (rowsOf (qs (kids b ts) (upto b) k))), some (.l .d, .list (told (kids b ts) (upto b) k)), some (.m .d, .dict (kvsOf (fun t => .list (ofTups (kids b ts t))) ms)), some (.d, .int kk), x5, x6, none]) := by
        have f1 : decide (kk = ((rowsOf (qs (kids b ts) (upto b) k)).length : Int)) = true := decide_eq_true (by rw [rl, he]; omega)
        unfold treeB
        simp -dsimp -implicitDefEqProofs only [ex_nil, ex_cons, then_nx, then_rt, then_ct, then_bk, ex_asg, ex_asgT, ex_par, ex_ret, ex_retMv, ex_ite, ex_brk, ex_cont, ev_var, ev_int, ev_bl, ev_non, ev_str, ev_dct, ev_tup, ev_lst, ev_op, ev_call, ev_and, ev_or, ev_not, ev_ifx, evs_nil, evs_cons, esv_nil, esv_cons, eas_nil, eas_var, eas_op, eas_int, eas_bl, eas_non, eas_str, eas_tup, eas_lst, eas_dct, eas_call, eas_and, eas_or, eas_not, eas_ifx, eas_comp, eas_slc, ex_put, putIn_l, ixN0, ixN1, fill_nil, fill_inl, fill_inr, asB_ok, bnd_ok, bnd_no, iff_t, iff_f, op_add, op_sub, op_neg, op_mul, op_fdiv, op_mod, op_gt, op_ge, op_lt, op_le, op_int, op_abs, op_min2, op_max2, op_lenL, op_lenS, op_lenD, op_lenT, op_tupL, op_tupD, op_ixL, op_ixD, op_ixS, op_ixT, atI0, atI1, setS_in, readV_eq, readO_d, readO_l, get_eq, getO_some, ixO_some, putO_some, List.getElem?_cons_zero, List.getElem?_cons_succ, List.set_cons_zero, List.set_cons_succ, List.length_cons, List.length_nil, Nat.reduceAdd, Nat.reduceLT, ne_eq, not_false_eq_true, and_self, true_and, and_true, op_eqI, f1]
      exact for_bk st
    · have hk' : k < (qs (kids b ts) (upto b) k).length := by omega
      obtain ⟨p, hp⟩ : ∃ p, (qs (kids b ts) (upto b) k)[k]? = some p := ⟨_, List.getElem?_eq_getElem hk'⟩
      have hql := qs_len (F := kids b ts) (t0 := upto b) (kids_len b h1 h5 ts) k
      have hkl := kids_len b h1 h5 ts p.1
      obtain ⟨L, hL⟩ : ∃ L : Int, ((rowsOf (qs (kids b ts) (upto b) k)).length : Int) = L := ⟨_, rfl⟩
      obtain ⟨mm, hmm⟩ : ∃ L : Int, ((ofTups (kids b ts p.1)).length : Int) = L := ⟨_, rfl⟩
      have tl := told_len (kids b ts) (upto b) hq
      obtain ⟨ms', hm', st⟩ := tree_turn T (cond b ts) (rowsOf (qs (kids b ts) (upto b) k)) (told (kids b ts) (upto b) k) (kids b ts) ms kk L mm p.1 p.2 x5 x6 hL hmm (by rw [← hL, rl]; omega) (atI_some (k := k) (by omega) (by
        unfold rowsOf
        rw [List.getElem?_map, hp]
        rfl)) (hc b h1 h5 ts p.1) (by omega) (by rw [← hL, rl]; omega) (by rw [← hmm, ofTups_len]; omega) (by omega)
      have e1 : rowsOf (qs (kids b ts) (upto b) (k + 1)) = rowsOf (qs (kids b ts) (upto b) k) ++ (ofTups (kids b ts p.1)).map fun o => .tuple [o, .int kk] := by
        show rowsOf (qs (kids b ts) (upto b) k ++ news (kids b ts) (qs (kids b ts) (upto b) k) k) = _
        rw [news_eq hp, show kk = (k : Int) by omega]
        unfold rowsOf ofTups
        rw [List.map_append, List.map_map, List.map_map]
        rfl
      have e2 : told (kids b ts) (upto b) (k + 1) = told (kids b ts) (upto b) k ++ [.tuple [.tuple (ofInts p.1), p.2, .tuple (rangeUp L (L + mm))]] := by
        rw [told_succ (kids b ts) (upto b) hp]
        have a1 : ((qs (kids b ts) (upto b) k).length : Int) = L := by rw [← hL, rl]
        have a2 : (((qs (kids b ts) (upto b) k).length + (kids b ts p.1).length : Nat) : Int) = L + mm := by
          rw [← hL, rl, ← hmm, ofTups_len]
          omega
        rw [a1, a2]
      have hl2 : (qs (kids b ts) (upto b) k).length ≤ (qs (kids b ts) (upto b) (k + 1)).length := by
        show _ ≤ (qs (kids b ts) (upto b) k ++ _).length
        rw [List.length_append]
        omega
      obtain ⟨N, y3, y4, y5, y6, r1, r2, r3, r4, r5⟩ := tree_loop T b h1 h5 ts hc m (k + 1) ms' (some (.d, .int kk)) (some (.d, .tuple (ofInts p.1))) (some (.d, p.2)) (by omega) (by omega) (by omega) (fun j hj' => by
        rcases Nat.lt_or_ge j k with h | h
        · exact hj j h
        · have : j = k := by omega
          subst this
          exact hk')
      refine ⟨N, y3, y4, y5, y6, r1, r2, r3, r4, ?_⟩
      rw [← e1, ← e2] at st
      refine Eq.trans (for_nx ?_) r5
      exact st
theorem tree_run (T : Tbl) (b : Nat) (h1 : 1 ≤ b) (h5 : b ≤ 5) (ts : List (List Int)) (hc : LchOk T) : ∃ N, N ≤ 2000 ∧ (∀ j < N, j < (qs (kids b ts) (upto b) j).length) ∧ N ≤ (qs (kids b ts) (upto b) N).length ∧ ((qs (kids b ts) (upto b) N).length = N ∨ N = 2000) ∧ runDef T p57_law_tree [(.d, cond b ts)] = .ok ((.l .d, .list (told (kids b ts) (upto b) N)), [(.d, cond b ts)]) := by
  obtain ⟨N, y3, y4, y5, y6, r1, r2, r3, r4, r5⟩ := tree_loop T b h1 h5 ts hc 2000 0 [] none none none (by omega) (Nat.zero_le _) (Nat.zero_le _) (fun j hj => absurd hj (Nat.not_lt_zero j))
  refine ⟨N, r1, r2, r3, r4, run_rt (ρ := [some (.d, cond b ts), some (.l .d, .list (rowsOf (qs (kids b ts) (upto b) N))), none, y3, y4, y5, y6, none]) ⟨rfl, by decide, rfl⟩ ?_ rfl⟩
  obtain ⟨bb, hbb⟩ : ∃ bb : Int, bb = (b : Int) := ⟨_, rfl⟩
  have hru : opV (.rangeL true 1) [(.d, .int bb)] = .ok (.d, .tuple (rangeUp 0 bb)) := op_rangeT1 (by
    rw [small_int (by omega) (by omega), decide_eq_true (cap_le (by omega))]
    rfl)
  have eu : rangeUp 0 bb = ofInts (upto b) := by
    unfold rangeUp upto ofInts
    rw [List.map_map, hbb]
    have : ((b : Int) - 0).toNat = b := by omega
    rw [this]
    exact List.map_congr_left fun i _ => by
      show PyData.int (0 + (i : Int)) = PyData.int (i : Int)
      rw [Int.zero_add]
  have H : execSs T (p57_law_tree.body.take 1) [some (.d, cond b ts), none, none, none, none, none, none, none] = .ok (.nx [some (.d, cond b ts), some (.l .d, .list [.tuple [.tuple (ofInts (upto b)), .none]]), some (.l .d, .list []), some (.m .d, .dict []), none, none, none, none]) := by
    rw [← eu]
    unfold p57_law_tree cond
    rw [← hbb, List.take_succ_cons, List.take_zero]
    simp -dsimp -implicitDefEqProofs only [ex_nil, ex_cons, then_nx, then_rt, then_ct, then_bk, ex_asg, ex_asgT, ex_par, ex_ret, ex_retMv, ex_ite, ex_brk, ex_cont, ev_var, ev_int, ev_bl, ev_non, ev_str, ev_dct, ev_tup, ev_lst, ev_op, ev_call, ev_and, ev_or, ev_not, ev_ifx, evs_nil, evs_cons, esv_nil, esv_cons, eas_nil, eas_var, eas_op, eas_int, eas_bl, eas_non, eas_str, eas_tup, eas_lst, eas_dct, eas_call, eas_and, eas_or, eas_not, eas_ifx, eas_comp, eas_slc, ex_put, putIn_l, ixN0, ixN1, fill_nil, fill_inl, fill_inr, asB_ok, bnd_ok, bnd_no, iff_t, iff_f, op_add, op_sub, op_neg, op_mul, op_fdiv, op_mod, op_gt, op_ge, op_lt, op_le, op_int, op_abs, op_min2, op_max2, op_lenL, op_lenS, op_lenD, op_lenT, op_tupL, op_tupD, op_ixL, op_ixD, op_ixS, op_ixT, atI0, atI1, setS_in, readV_eq, readO_d, readO_l, get_eq, getO_some, ixO_some, putO_some, List.getElem?_cons_zero, List.getElem?_cons_succ, List.set_cons_zero, List.set_cons_succ, List.length_cons, List.length_nil, Nat.reduceAdd, Nat.reduceLT, ne_eq, not_false_eq_true, and_self, true_and, and_true, setAll_nil, setAll_cons, hru]
  have F : execS T (.for_ (.var 4) (.range1 (.int 2000)) treeB) [some (.d, cond b ts), some (.l .d, .list [.tuple [.tuple (ofInts (upto b)), .none]]), some (.l .d, .list []), some (.m .d, .dict []), none, none, none, none] = .ok (.nx [some (.d, cond b ts), some (.l .d, .list (rowsOf (qs (kids b ts) (upto b) N))), some (.l .d, .list (told (kids b ts) (upto b) N)), y3, y4, y5, y6, none]) := by
    rw [ex_for, ei_range1_ok (k := .d) (n := 2000) (r := [some (.d, cond b ts), some (.l .d, .list [.tuple [.tuple (ofInts (upto b)), .none]]), some (.l .d, .list []), some (.m .d, .dict []), none, none, none, none]) rfl (small_int (by decide) (by decide)), bnd_ok]
    refine Eq.trans ?_ r5
    have : rangeUp 0 2000 = (List.range' 0 2000).map fun (i : Nat) => PyData.int (0 + (i : Int)) := by
      unfold rangeUp
      rw [← List.range_eq_range']
      rfl
    show forLoop _ (rangeUp 0 2000) _ = _
    rw [this]
    rfl
  refine (ex_app2 (p57_law_tree.body.take 1) (p57_law_tree.body.drop 1) _ _ H).trans ?_
  show execSs T [.for_ (.var 4) (.range1 (.int 2000)) treeB, .retMv 2] _ = _
  rw [ex_cons, F, bnd_ok, then_nx]
  simp -dsimp -implicitDefEqProofs only [ex_nil, ex_cons, then_nx, then_rt, then_ct, then_bk, ex_asg, ex_asgT, ex_par, ex_ret, ex_retMv, ex_ite, ex_brk, ex_cont, ev_var, ev_int, ev_bl, ev_non, ev_str, ev_dct, ev_tup, ev_lst, ev_op, ev_call, ev_and, ev_or, ev_not, ev_ifx, evs_nil, evs_cons, esv_nil, esv_cons, eas_nil, eas_var, eas_op, eas_int, eas_bl, eas_non, eas_str, eas_tup, eas_lst, eas_dct, eas_call, eas_and, eas_or, eas_not, eas_ifx, eas_comp, eas_slc, ex_put, putIn_l, ixN0, ixN1, fill_nil, fill_inl, fill_inr, asB_ok, bnd_ok, bnd_no, iff_t, iff_f, op_add, op_sub, op_neg, op_mul, op_fdiv, op_mod, op_gt, op_ge, op_lt, op_le, op_int, op_abs, op_min2, op_max2, op_lenL, op_lenS, op_lenD, op_lenT, op_tupL, op_tupD, op_ixL, op_ixD, op_ixS, op_ixT, atI0, atI1, setS_in, readV_eq, readO_d, readO_l, get_eq, getO_some, ixO_some, putO_some, List.getElem?_cons_zero, List.getElem?_cons_succ, List.set_cons_zero, List.set_cons_succ, List.length_cons, List.length_nil, Nat.reduceAdd, Nat.reduceLT, ne_eq, not_false_eq_true, and_self, true_and, and_true]
end K02
end PL
end

section
set_option Elab.async false
set_option linter.all false
set_option maxRecDepth 100000
set_option autoImplicit false
/-! PL02j: the program's split rows. -/
namespace PL
open PySem
namespace K02
theorem op_listT {xs : List D} : opV .list [(.d, .tuple xs)] = .ok (.l .d, .list xs) := rfl
def splitC : PE := .op .lt [.var 4, .op .len [.var 1]]
def splitB : List PS := [.asg (.var 5) (.call 47 [.var 0, .op .ix [.var 1, .var 4]]), .app 3 (.op (.rangeL true 2) [.op .len [.var 1], .op .add [.op .len [.var 1], .op .len [.var 5]]]), .ext 1 (.op .list [.var 5]), .ext 2 (.comp (.var 4) [6] (.var 6) (.e (.var 5)) (.bl true)), .aug 4 .add (.int 1)]
theorem split_turn (T : Tbl) (c : D) (lots pars ch : List D) (fs : List (List Int)) (kk L m : Int) (t : List Int) (x5 : Option SV)
    (hL : (lots.length : Int) = L) (hm : ((ofTups fs).length : Int) = m) (hat : atI lots kk = some (.tuple (ofInts t))) (hc : T.f 47 [(.d, c), (.d, .tuple (ofInts t))] = .ok ((.d, .tuple (ofTups fs)), [(.d, c), (.d, .tuple (ofInts t))]))
    (h2 : L ≤ 500000) (h3 : m ≤ 500000) (h4 : ch.length ≤ 500000) (h5 : pars.length ≤ 500000) :
    execSs T splitB [some (.d, c), some (.l .d, .list lots), some (.l .d, .list pars), some (.l .d, .list ch), some (.d, .int kk), x5, none] = .ok (.nx [some (.d, c), some (.l .d, .list (lots ++ ofTups fs)), some (.l .d, .list (pars ++ (ofTups fs).map fun _ => .int kk)), some (.l .d, .list (ch ++ [.tuple (rangeUp L (L + m))])), some (.d, .int (kk + 1)), some (.d, .tuple (ofTups fs)), none]) := by
  have hr : opV (.rangeL true 2) [(.d, .int L), (.d, .int (L + m))] = .ok (.d, .tuple (rangeUp L (L + m))) := op_rangeT2 (by
    rw [small_int (by omega) (by omega), small_int (by omega) (by omega), decide_eq_true (cap_le (by omega))]
    rfl)
  have ha : ch.length < sizeCap := Nat.lt_of_le_of_lt h4 (by decide)
  have C : ∀ p q r : List D, evalE T (.comp (.var 4) [6] (.var 6) (.e (.var 5)) (.bl true)) [some (.d, c), some (.l .d, .list p), some (.l .d, .list q), some (.l .d, .list r), some (.d, .int kk), some (.d, .tuple (ofTups fs)), none] = .ok ((.l .d, .list ((ofTups fs).map fun _ => .int kk)), [some (.d, c), some (.l .d, .list p), some (.l .d, .list q), some (.l .d, .list r), some (.d, .int kk), some (.d, .tuple (ofTups fs)), none]) := by
    intro p q r
    refine (comp_pure (p := fun _ => true) (items := ofTups fs) (g := fun _ => .int kk) (ρ1 := [some (.d, c), some (.l .d, .list p), some (.l .d, .list q), some (.l .d, .list r), some (.d, .int kk), some (.d, .tuple (ofTups fs)), none]) ?_ rfl rfl (by show 6 < 7; decide) (fun _ _ => rfl) fun o _ _ => ⟨.d, ?_⟩).trans (by rw [List.filter_eq_self.mpr fun _ _ => rfl])
    · rw [ei_e]
      simp -dsimp -implicitDefEqProofs only [ex_nil, ex_cons, then_nx, then_rt, then_ct, then_bk, ex_asg, ex_asgT, ex_par, ex_ret, ex_retMv, ex_ite, ex_brk, ex_cont, ev_var, ev_int, ev_bl, ev_non, ev_str, ev_dct, ev_tup, ev_lst, ev_op, ev_call, ev_and, ev_or, ev_not, ev_ifx, evs_nil, evs_cons, esv_nil, esv_cons, eas_nil, eas_var, eas_op, eas_int, eas_bl, eas_non, eas_str, eas_tup, eas_lst, eas_dct, eas_call, eas_and, eas_or, eas_not, eas_ifx, eas_comp, eas_slc, ex_put, putIn_l, ixN0, ixN1, fill_nil, fill_inl, fill_inr, asB_ok, bnd_ok, bnd_no, iff_t, iff_f, op_add, op_sub, op_neg, op_mul, op_fdiv, op_mod, op_gt, op_ge, op_lt, op_le, op_int, op_abs, op_min2, op_max2, op_lenL, op_lenS, op_lenD, op_lenT, op_tupL, op_tupD, op_ixL, op_ixD, op_ixS, op_ixT, atI0, atI1, setS_in, readV_eq, readO_d, readO_l, get_eq, getO_some, ixO_some, putO_some, List.getElem?_cons_zero, List.getElem?_cons_succ, List.set_cons_zero, List.set_cons_succ, List.length_cons, List.length_nil, Nat.reduceAdd, Nat.reduceLT, ne_eq, not_false_eq_true, and_self, true_and, and_true]
      rfl
    · show evalE T _ [some (.d, c), some (.l .d, .list p), some (.l .d, .list q), some (.l .d, .list r), some (.d, .int kk), some (.d, .tuple (ofTups fs)), some (.d, o)] = R.ok (_, [some (.d, c), some (.l .d, .list p), some (.l .d, .list q), some (.l .d, .list r), some (.d, .int kk), some (.d, .tuple (ofTups fs)), some (.d, o)])
      simp -dsimp -implicitDefEqProofs only [ex_nil, ex_cons, then_nx, then_rt, then_ct, then_bk, ex_asg, ex_asgT, ex_par, ex_ret, ex_retMv, ex_ite, ex_brk, ex_cont, ev_var, ev_int, ev_bl, ev_non, ev_str, ev_dct, ev_tup, ev_lst, ev_op, ev_call, ev_and, ev_or, ev_not, ev_ifx, evs_nil, evs_cons, esv_nil, esv_cons, eas_nil, eas_var, eas_op, eas_int, eas_bl, eas_non, eas_str, eas_tup, eas_lst, eas_dct, eas_call, eas_and, eas_or, eas_not, eas_ifx, eas_comp, eas_slc, ex_put, putIn_l, ixN0, ixN1, fill_nil, fill_inl, fill_inr, asB_ok, bnd_ok, bnd_no, iff_t, iff_f, op_add, op_sub, op_neg, op_mul, op_fdiv, op_mod, op_gt, op_ge, op_lt, op_le, op_int, op_abs, op_min2, op_max2, op_lenL, op_lenS, op_lenD, op_lenT, op_tupL, op_tupD, op_ixL, op_ixD, op_ixS, op_ixT, atI0, atI1, setS_in, readV_eq, readO_d, readO_l, get_eq, getO_some, ixO_some, putO_some, List.getElem?_cons_zero, List.getElem?_cons_succ, List.set_cons_zero, List.set_cons_succ, List.length_cons, List.length_nil, Nat.reduceAdd, Nat.reduceLT, ne_eq, not_false_eq_true, and_self, true_and, and_true]
  have e1 : lots.length + (ofTups fs).length ≤ sizeCap := cap_le (by omega)
  have e2 : pars.length + ((ofTups fs).map fun _ => PyData.int kk).length ≤ sizeCap := by
    rw [List.length_map]
    exact cap_le (by omega)
  have A : ∀ p q r : List D, execS T (.aug 4 .add (.int 1)) [some (.d, c), some (.l .d, .list p), some (.l .d, .list q), some (.l .d, .list r), some (.d, .int kk), some (.d, .tuple (ofTups fs)), none] = .ok (.nx [some (.d, c), some (.l .d, .list p), some (.l .d, .list q), some (.l .d, .list r), some (.d, .int (kk + 1)), some (.d, .tuple (ofTups fs)), none]) := fun p q r => ex_augI rfl
  unfold splitB
  simp -dsimp -implicitDefEqProofs only [ex_nil, ex_cons, then_nx, then_rt, then_ct, then_bk, ex_asg, ex_asgT, ex_par, ex_ret, ex_retMv, ex_ite, ex_brk, ex_cont, ev_var, ev_int, ev_bl, ev_non, ev_str, ev_dct, ev_tup, ev_lst, ev_op, ev_call, ev_and, ev_or, ev_not, ev_ifx, evs_nil, evs_cons, esv_nil, esv_cons, eas_nil, eas_var, eas_op, eas_int, eas_bl, eas_non, eas_str, eas_tup, eas_lst, eas_dct, eas_call, eas_and, eas_or, eas_not, eas_ifx, eas_comp, eas_slc, ex_put, putIn_l, ixN0, ixN1, fill_nil, fill_inl, fill_inr, asB_ok, bnd_ok, bnd_no, iff_t, iff_f, op_add, op_sub, op_neg, op_mul, op_fdiv, op_mod, op_gt, op_ge, op_lt, op_le, op_int, op_abs, op_min2, op_max2, op_lenL, op_lenS, op_lenD, op_lenT, op_tupL, op_tupD, op_ixL, op_ixD, op_ixS, op_ixT, atI0, atI1, setS_in, readV_eq, readO_d, readO_l, get_eq, getO_some, ixO_some, putO_some, List.getElem?_cons_zero, List.getElem?_cons_succ, List.set_cons_zero, List.set_cons_succ, List.length_cons, List.length_nil, Nat.reduceAdd, Nat.reduceLT, ne_eq, not_false_eq_true, and_self, true_and, and_true, hat, own_d, own_r, own_n, nd_nil, pb_d, pb_r, pb_n, noS_d, hc, ex_app, ex_ext, isLst_l, hL, hm, hr, appIn_l ha, op_listT, extIn_l e1, extIn_l e2, C, A]
theorem split_loop (T : Tbl) (b : Nat) (h1 : 1 ≤ b) (h5 : b ≤ 5) (ts : List (List Int)) (hg : GoOk T) (h0 : upto b ∈ LL b) (N : Nat) (hN : N ≤ 200) (hj : ∀ j < N, j < (qs (kids b ts) (upto b) j).length) (hq : (qs (kids b ts) (upto b) N).length = N) :
    ∀ (m k f : Nat) (kk : Int) (x5 : Option SV), k + m = N → kk = k → m < f →
    ∃ y5 y, whileLoop (fun r => do
      let (v, r1) ← evalE T splitC r
      let b ← asBool v
      .ok (b, r1)) (fun r => execSs T splitB r) f [some (.d, cond b ts), some (.l .d, .list (lotsOf (qs (kids b ts) (upto b) k))), some (.l .d, .list (parsOf (qs (kids b ts) (upto b) k))), some (.l .d, .list (chs (kids b ts) (upto b) k)), some (.d, .int kk), x5, none] = .ok (.nx [some (.d, cond b ts), some (.l .d, .list (lotsOf (qs (kids b ts) (upto b) N))), some (.l .d, .list (parsOf (qs (kids b ts) (upto b) N))), some (.l .d, .list (chs (kids b ts) (upto b) N)), y5, y, none])
  | m, k, 0, kk, x5, _, _, hf => absurd hf (Nat.not_lt_zero m)
  | 0, k, f + 1, kk, x5, hk, hkk, hf => by
    have : k = N := by omega
    subst this
    refine ⟨some (.d, .int kk), x5, while_f ?_⟩
    have f1 : decide (kk < ((lotsOf (qs (kids b ts) (upto b) k)).length : Int)) = false := decide_eq_false (by
      unfold lotsOf
      rw [List.length_map]
      omega)
    show R.bL (evalE T splitC _) _ = _
    unfold splitC
    simp -dsimp -implicitDefEqProofs only [ex_nil, ex_cons, then_nx, then_rt, then_ct, then_bk, ex_asg, ex_asgT, ex_par, ex_ret, ex_retMv, ex_ite, ex_brk, ex_cont, ev_var, ev_int, ev_bl, ev_non, ev_str, ev_dct, ev_tup, ev_lst, ev_op, ev_call, ev_and, ev_or, ev_not, ev_ifx, evs_nil, evs_cons, esv_nil, esv_cons, eas_nil, eas_var, eas_op, eas_int, eas_bl, eas_non, eas_str, eas_tup, eas_lst, eas_dct, eas_call, eas_and, eas_or, eas_not, eas_ifx, eas_comp, eas_slc, ex_put, putIn_l, ixN0, ixN1, fill_nil, fill_inl, fill_inr, asB_ok, bnd_ok, bnd_no, iff_t, iff_f, op_add, op_sub, op_neg, op_mul, op_fdiv, op_mod, op_gt, op_ge, op_lt, op_le, op_int, op_abs, op_min2, op_max2, op_lenL, op_lenS, op_lenD, op_lenT, op_tupL, op_tupD, op_ixL, op_ixD, op_ixS, op_ixT, atI0, atI1, setS_in, readV_eq, readO_d, readO_l, get_eq, getO_some, ixO_some, putO_some, List.getElem?_cons_zero, List.getElem?_cons_succ, List.set_cons_zero, List.set_cons_succ, List.length_cons, List.length_nil, Nat.reduceAdd, Nat.reduceLT, ne_eq, not_false_eq_true, and_self, true_and, and_true, f1]
    rfl
  | m + 1, k, f + 1, kk, x5, hk, hkk, hf => by
    have hk' := hj k (by omega)
    have ll : (lotsOf (qs (kids b ts) (upto b) k)).length = (qs (kids b ts) (upto b) k).length := List.length_map ..
    have pl : (parsOf (qs (kids b ts) (upto b) k)).length = (qs (kids b ts) (upto b) k).length := List.length_map ..
    obtain ⟨p, hp⟩ : ∃ p, (qs (kids b ts) (upto b) k)[k]? = some p := ⟨_, List.getElem?_eq_getElem hk'⟩
    have hin : p.1 ∈ LL b := qs_in (F := kids b ts) (t0 := upto b) (P := fun t => t ∈ LL b) h0 (fun t o ho => kids_in ho) k p (List.mem_of_getElem? hp)
    have hql := qs_len (F := kids b ts) (t0 := upto b) (kids_len b h1 h5 ts) k
    have hkl := kids_len b h1 h5 ts p.1
    obtain ⟨L, hL⟩ : ∃ L : Int, ((lotsOf (qs (kids b ts) (upto b) k)).length : Int) = L := ⟨_, rfl⟩
    obtain ⟨mm, hmm⟩ : ∃ L : Int, ((ofTups (kids b ts p.1)).length : Int) = L := ⟨_, rfl⟩
    have st := split_turn T (cond b ts) (lotsOf (qs (kids b ts) (upto b) k)) (parsOf (qs (kids b ts) (upto b) k)) (chs (kids b ts) (upto b) k) (kids b ts p.1) kk L mm p.1 x5 hL hmm (atI_some (k := k) hkk (by
      unfold lotsOf
      rw [List.getElem?_map, hp]
      rfl)) (hg b h1 h5 ts p.1 hin) (by omega) (by rw [← hmm, ofTups_len]; omega) (by rw [chs_len]; omega) (by omega)
    have e1 : lotsOf (qs (kids b ts) (upto b) (k + 1)) = lotsOf (qs (kids b ts) (upto b) k) ++ ofTups (kids b ts p.1) := by
      show lotsOf (qs (kids b ts) (upto b) k ++ news (kids b ts) (qs (kids b ts) (upto b) k) k) = _
      rw [news_eq hp]
      unfold lotsOf ofTups
      rw [List.map_append, List.map_map]
      rfl
    have e2 : parsOf (qs (kids b ts) (upto b) (k + 1)) = parsOf (qs (kids b ts) (upto b) k) ++ (ofTups (kids b ts p.1)).map fun _ => .int kk := by
      show parsOf (qs (kids b ts) (upto b) k ++ news (kids b ts) (qs (kids b ts) (upto b) k) k) = _
      rw [news_eq hp, hkk]
      unfold parsOf ofTups
      rw [List.map_append, List.map_map, List.map_map]
      rfl
    have e3 : chs (kids b ts) (upto b) (k + 1) = chs (kids b ts) (upto b) k ++ [.tuple (rangeUp L (L + mm))] := by
      show chs (kids b ts) (upto b) k ++ [.tuple (rangeUp (qs (kids b ts) (upto b) k).length ((qs (kids b ts) (upto b) k).length + (news (kids b ts) (qs (kids b ts) (upto b) k) k).length : Nat))] = _
      have a1 : ((qs (kids b ts) (upto b) k).length : Int) = L := by rw [← hL, ll]
      have a2 : (((qs (kids b ts) (upto b) k).length + (news (kids b ts) (qs (kids b ts) (upto b) k) k).length : Nat) : Int) = L + mm := by
        rw [news_eq hp, List.length_map, ← hL, ll, ← hmm, ofTups_len]
        omega
      rw [a1, a2]
    rw [← e1, ← e2, ← e3] at st
    obtain ⟨y5, y, r⟩ := split_loop T b h1 h5 ts hg h0 N hN hj hq m (k + 1) f (kk + 1) (some (.d, .tuple (ofTups (kids b ts p.1)))) (by omega) (by omega) (by omega)
    refine ⟨y5, y, (while_t ?_ st).trans r⟩
    have f1 : decide (kk < L) = true := decide_eq_true (by omega)
    show R.bL (evalE T splitC _) _ = _
    unfold splitC
    simp -dsimp -implicitDefEqProofs only [ex_nil, ex_cons, then_nx, then_rt, then_ct, then_bk, ex_asg, ex_asgT, ex_par, ex_ret, ex_retMv, ex_ite, ex_brk, ex_cont, ev_var, ev_int, ev_bl, ev_non, ev_str, ev_dct, ev_tup, ev_lst, ev_op, ev_call, ev_and, ev_or, ev_not, ev_ifx, evs_nil, evs_cons, esv_nil, esv_cons, eas_nil, eas_var, eas_op, eas_int, eas_bl, eas_non, eas_str, eas_tup, eas_lst, eas_dct, eas_call, eas_and, eas_or, eas_not, eas_ifx, eas_comp, eas_slc, ex_put, putIn_l, ixN0, ixN1, fill_nil, fill_inl, fill_inr, asB_ok, bnd_ok, bnd_no, iff_t, iff_f, op_add, op_sub, op_neg, op_mul, op_fdiv, op_mod, op_gt, op_ge, op_lt, op_le, op_int, op_abs, op_min2, op_max2, op_lenL, op_lenS, op_lenD, op_lenT, op_tupL, op_tupD, op_ixL, op_ixD, op_ixS, op_ixT, atI0, atI1, setS_in, readV_eq, readO_d, readO_l, get_eq, getO_some, ixO_some, putO_some, List.getElem?_cons_zero, List.getElem?_cons_succ, List.set_cons_zero, List.set_cons_succ, List.length_cons, List.length_nil, Nat.reduceAdd, Nat.reduceLT, ne_eq, not_false_eq_true, and_self, true_and, and_true, hL, f1]
    rfl
theorem top1 : upto 1 ∈ LL 1 := of_decide_eq_true (by kernel_rfl)
theorem top2 : upto 2 ∈ LL 2 := of_decide_eq_true (by kernel_rfl)
theorem top3 : upto 3 ∈ LL 3 := of_decide_eq_true (by kernel_rfl)
theorem top4 : upto 4 ∈ LL 4 := of_decide_eq_true (by kernel_rfl)
theorem top5 : upto 5 ∈ LL 5 := of_decide_eq_true (by kernel_rfl)
theorem top_in (b : Nat) (h1 : 1 ≤ b) (h5 : b ≤ 5) : upto b ∈ LL b := by
  have : b = 1 ∨ b = 2 ∨ b = 3 ∨ b = 4 ∨ b = 5 := by omega
  rcases this with rfl | rfl | rfl | rfl | rfl
  · exact top1
  · exact top2
  · exact top3
  · exact top4
  · exact top5
theorem split_run (T : Tbl) (hfu : 300 < T.fuel) (b : Nat) (h1 : 1 ≤ b) (h5 : b ≤ 5) (ts : List (List Int)) (hg : GoOk T) (N : Nat) (hN : N ≤ 200) (hj : ∀ j < N, j < (qs (kids b ts) (upto b) j).length) (hq : (qs (kids b ts) (upto b) N).length = N) :
    runDef T p48_split_rows [(.d, cond b ts)] = .ok ((.d, .tuple (told (kids b ts) (upto b) N)), [(.d, cond b ts)]) := by
  obtain ⟨y5, y, r⟩ := split_loop T b h1 h5 ts hg (top_in b h1 h5) N hN hj hq N 0 T.fuel 0 none (by omega) rfl (by omega)
  obtain ⟨bb, hbb⟩ : ∃ bb : Int, bb = (b : Int) := ⟨_, rfl⟩
  have hru : opV (.rangeL true 1) [(.d, .int bb)] = .ok (.d, .tuple (rangeUp 0 bb)) := op_rangeT1 (by
    rw [small_int (by omega) (by omega), decide_eq_true (cap_le (by omega))]
    rfl)
  have eu : rangeUp 0 bb = ofInts (upto b) := by
    unfold rangeUp upto ofInts
    rw [List.map_map, hbb]
    have : ((b : Int) - 0).toNat = b := by omega
    rw [this]
    exact List.map_congr_left fun i _ => by
      show PyData.int (0 + (i : Int)) = PyData.int (i : Int)
      rw [Int.zero_add]
  have H : execSs T (p48_split_rows.body.take 1) [some (.d, cond b ts), none, none, none, none, none, none] = .ok (.nx [some (.d, cond b ts), some (.l .d, .list [.tuple (ofInts (upto b))]), some (.l .d, .list [.none]), some (.l .d, .list []), some (.d, .int 0), none, none]) := by
    rw [← eu]
    unfold p48_split_rows cond
    rw [← hbb, List.take_succ_cons, List.take_zero]
    simp -dsimp -implicitDefEqProofs only [ex_nil, ex_cons, then_nx, then_rt, then_ct, then_bk, ex_asg, ex_asgT, ex_par, ex_ret, ex_retMv, ex_ite, ex_brk, ex_cont, ev_var, ev_int, ev_bl, ev_non, ev_str, ev_dct, ev_tup, ev_lst, ev_op, ev_call, ev_and, ev_or, ev_not, ev_ifx, evs_nil, evs_cons, esv_nil, esv_cons, eas_nil, eas_var, eas_op, eas_int, eas_bl, eas_non, eas_str, eas_tup, eas_lst, eas_dct, eas_call, eas_and, eas_or, eas_not, eas_ifx, eas_comp, eas_slc, ex_put, putIn_l, ixN0, ixN1, fill_nil, fill_inl, fill_inr, asB_ok, bnd_ok, bnd_no, iff_t, iff_f, op_add, op_sub, op_neg, op_mul, op_fdiv, op_mod, op_gt, op_ge, op_lt, op_le, op_int, op_abs, op_min2, op_max2, op_lenL, op_lenS, op_lenD, op_lenT, op_tupL, op_tupD, op_ixL, op_ixD, op_ixS, op_ixT, atI0, atI1, setS_in, readV_eq, readO_d, readO_l, get_eq, getO_some, ixO_some, putO_some, List.getElem?_cons_zero, List.getElem?_cons_succ, List.set_cons_zero, List.set_cons_succ, List.length_cons, List.length_nil, Nat.reduceAdd, Nat.reduceLT, ne_eq, not_false_eq_true, and_self, true_and, and_true, setAll_nil, setAll_cons, hru]
  have F : execS T (.while_ splitC splitB) [some (.d, cond b ts), some (.l .d, .list [.tuple (ofInts (upto b))]), some (.l .d, .list [.none]), some (.l .d, .list []), some (.d, .int 0), none, none] = .ok (.nx [some (.d, cond b ts), some (.l .d, .list (lotsOf (qs (kids b ts) (upto b) N))), some (.l .d, .list (parsOf (qs (kids b ts) (upto b) N))), some (.l .d, .list (chs (kids b ts) (upto b) N)), y5, y, none]) := r
  have Z := op_zip3 (k1 := .l .d) (k2 := .l .d) (k3 := .l .d) (as := lotsOf (qs (kids b ts) (upto b) N)) (bs := parsOf (qs (kids b ts) (upto b) N)) (cs := chs (kids b ts) (upto b) N) rfl
  refine run_rt (ρ := [some (.d, cond b ts), some (.l .d, .list (lotsOf (qs (kids b ts) (upto b) N))), some (.l .d, .list (parsOf (qs (kids b ts) (upto b) N))), some (.l .d, .list (chs (kids b ts) (upto b) N)), y5, y, none]) ⟨rfl, by decide, rfl⟩ ((ex_app2 (p48_split_rows.body.take 1) (p48_split_rows.body.drop 1) _ _ H).trans ?_) rfl
  show execSs T [.while_ splitC splitB, .ret (.op .tuple [.op .listZip3 [.var 1, .var 2, .var 3]])] _ = _
  rw [ex_cons, F, bnd_ok, then_nx]
  simp -dsimp -implicitDefEqProofs only [ex_nil, ex_cons, then_nx, then_rt, then_ct, then_bk, ex_asg, ex_asgT, ex_par, ex_ret, ex_retMv, ex_ite, ex_brk, ex_cont, ev_var, ev_int, ev_bl, ev_non, ev_str, ev_dct, ev_tup, ev_lst, ev_op, ev_call, ev_and, ev_or, ev_not, ev_ifx, evs_nil, evs_cons, esv_nil, esv_cons, eas_nil, eas_var, eas_op, eas_int, eas_bl, eas_non, eas_str, eas_tup, eas_lst, eas_dct, eas_call, eas_and, eas_or, eas_not, eas_ifx, eas_comp, eas_slc, ex_put, putIn_l, ixN0, ixN1, fill_nil, fill_inl, fill_inr, asB_ok, bnd_ok, bnd_no, iff_t, iff_f, op_add, op_sub, op_neg, op_mul, op_fdiv, op_mod, op_gt, op_ge, op_lt, op_le, op_int, op_abs, op_min2, op_max2, op_lenL, op_lenS, op_lenD, op_lenT, op_tupL, op_tupD, op_ixL, op_ixD, op_ixS, op_ixT, atI0, atI1, setS_in, readV_eq, readO_d, readO_l, get_eq, getO_some, ixO_some, putO_some, List.getElem?_cons_zero, List.getElem?_cons_succ, List.set_cons_zero, List.set_cons_succ, List.length_cons, List.length_nil, Nat.reduceAdd, Nat.reduceLT, ne_eq, not_false_eq_true, and_self, true_and, and_true, Z, op_tupD]
  rfl
end K02
end PL
end

section
set_option Elab.async false
set_option linter.all false
set_option maxRecDepth 100000
set_option autoImplicit false
/-! PL02k: dice by rows. -/
namespace PL
open PySem
theorem atI2 {x y z : D} {r : List D} : atI (x :: y :: z :: r) 2 = some z := by
  unfold atI ixN
  rw [if_pos (by decide), if_pos (by simp only [List.length_cons]; omega)]
  rfl
theorem op_neT0 {a : List Int} : opV .ne [(.d, .tuple (ofInts a)), (.d, .tuple [])] = .ok (.d, .bool (!decide (a = []))) := op_neT (b := [])
theorem op_sumL {ns : List Int} : opV .sum [(.l .d, .list (ofInts ns))] = .ok (.d, .int ns.sum) := op_sumI
theorem ei_range3_ok {T : Tbl} {ρ : Env} {a b c : PE} {m n s : Int} {k1 k2 k3 : Kd} {r1 r2 r3 : Env} (h1 : evalE T a ρ = .ok ((k1, .int m), r1)) (h2 : evalE T b r1 = .ok ((k2, .int n), r2)) (h3 : evalE T c r2 = .ok ((k3, .int s), r3)) (hs : (small m && small n && decide (s = -1)) = true) : evalI T (.range3 a b c) ρ = .ok (rangeN (m - n).toNat m s, r3) := by
  show R.bnd (evalE T a ρ) _ = _
  rw [h1]
  show R.bnd (evalE T b r1) _ = _
  rw [h2]
  show R.bnd (evalE T c r2) _ = _
  rw [h3]
  show (if (small m && small n && decide (s = -1)) = true then R.ok _ else .no) = _
  rw [hs]
  rfl
/-- from behind to the front -/
def desc : Nat → List Nat
  | 0 => []
  | k + 1 => k :: desc k
theorem desc_loop {turn : D → Env → R Out} {N : Nat} {f : List Int → Nat → List Int} {S : List Int → Env → Prop}
    (step : ∀ (w : List Int) (r : Env) (i : Nat) (ii : Int), ii = i → i < N → w.length = N → S w r → ∃ r', turn (.int ii) r = .ok (.nx r') ∧ S (f w i) r' ∧ (f w i).length = N) :
    ∀ (k : Nat) (w : List Int) (r : Env), k ≤ N → w.length = N → S w r → ∃ r', forLoop turn ((List.range' (N - k) k).map fun (i : Nat) => PyData.int ((N : Int) - 1 + (i : Int) * -1)) r = .ok (.nx r') ∧ S ((desc k).foldl f w) r' ∧ ((desc k).foldl f w).length = N
  | 0, w, r, _, hw, hs => ⟨r, rfl, hs, hw⟩
  | k + 1, w, r, hk, hw, hs => by
    obtain ⟨r1, e1, s1, l1⟩ := step w r k ((N : Int) - 1 + ((N - (k + 1) : Nat) : Int) * -1) (by omega) (by omega) hw hs
    obtain ⟨r2, e2, s2, l2⟩ := desc_loop step k (f w k) r1 (by omega) l1 s1
    refine ⟨r2, ?_, s2, l2⟩
    rw [List.range'_succ, List.map_cons]
    refine (for_nx e1).trans ?_
    have : N - (k + 1) + 1 = N - k := by omega
    rw [this]
    exact e2
namespace K02
def row (l : List Int) (p : D) (ch : List Int) : D := .tuple [.tuple (ofInts l), p, .tuple (ofInts ch)]
def RowsIn (R : List D) (N : Nat) : Prop := R.length = N ∧ ∀ i < N, ∃ l p ch, R[i]? = some (row l p ch) ∧ ∀ c ∈ ch, 0 ≤ c ∧ c < N
def chOf (R : List D) (c : Int) : List Int := match R[c.toNat]? with
  | some (.tuple [_, _, .tuple ds]) => (intsOf ds).getD []
  | _ => []
def lotOf (R : List D) (c : Int) : List Int := match R[c.toNat]? with
  | some (.tuple [.tuple ds, _, _]) => (intsOf ds).getD []
  | _ => []
theorem chOf_row {R : List D} {c : Int} {l : List Int} {p : D} {ch : List Int} (h : R[c.toNat]? = some (row l p ch)) : chOf R c = ch := by
  unfold chOf
  rw [h]
  show (intsOf (ofInts ch)).getD [] = ch
  rw [intsOf_ofInts]
  rfl
theorem lotOf_row {R : List D} {c : Int} {l : List Int} {p : D} {ch : List Int} (h : R[c.toNat]? = some (row l p ch)) : lotOf R c = l := by
  unfold lotOf
  rw [h]
  show (intsOf (ofInts l)).getD [] = l
  rw [intsOf_ofInts]
  rfl
theorem row_at {R : List D} {N : Nat} (h : RowsIn R N) {c : Int} (c0 : 0 ≤ c) (c1 : c < N) : ∃ p, atI R c = some (row (lotOf R c) p (chOf R c)) ∧ ∀ d ∈ chOf R c, 0 ≤ d ∧ d < N := by
  obtain ⟨l, p, ch, e, hi⟩ := h.2 c.toNat (by omega)
  rw [chOf_row e, lotOf_row e]
  exact ⟨p, atI_some (k := c.toNat) (by omega) e, hi⟩
/-- a number at a place -/
def wAt (w : List Int) (c : Int) : Int := (w[c.toNat]?).getD 0
theorem w_at {w : List Int} {N : Nat} (h : w.length = N) {c : Int} (c0 : 0 ≤ c) (c1 : c < N) : atI (ofInts w) c = some (.int (wAt w c)) := by
  have hl : c.toNat < w.length := by omega
  refine atI_some (k := c.toNat) (by omega) ?_
  unfold ofInts wAt
  rw [List.getElem?_map, List.getElem?_eq_getElem hl]
  rfl
def deepOf (R : List D) (cs : List Int) : List Int := cs.filter fun c => !decide (chOf R c = [])
def val (q : Bool) (R : List D) (w cs : List Int) : Int :=
  if q then ((deepOf R cs).map (wAt w)).sum + (if (deepOf R cs).length < cs.length then 1 else 0) else match cs.map (wAt w) with
    | n :: ns => maxI ns n
    | [] => 0
def upd (q : List Int → Bool) (R : List D) (w : List Int) (i : Nat) : List Int := if chOf R i = [] then w else w.set i (val (q (lotOf R i)) R w (chOf R i))
theorem upd_len {q : List Int → Bool} {R : List D} {w : List Int} {i : Nat} : (upd q R w i).length = w.length := by
  unfold upd
  split
  · rfl
  · rw [List.length_set]
theorem ofInts_set {w : List Int} {i : Nat} {v : Int} : (ofInts w).set i (.int v) = ofInts (w.set i v) := by
  unfold ofInts
  rw [List.map_set]
theorem ixN_nat {n i : Nat} {ii : Int} (h : ii = i) (hi : i < n) : ixN n ii = some i := by
  subst h
  unfold ixN
  rw [if_pos (by omega), if_pos (by omega)]
  rfl
/-! ### the law's -/
def ldB : List PS := [.asg (.tup [.var 5, .var 6, .var 7]) (.op .ix [.var 1, .var 4]), .ite (.op .ne [.var 7, .tup []]) [.asg (.var 8) (.comp (.op .ix [.var 3, .var 9]) [9] (.var 9) (.e (.var 7)) (.op .ne [.op .ix [.op .ix [.var 1, .var 9], .int 2], .tup []])), .asg (.var 10) (.op .eq [.op .isin [.var 5, .op .ix [.var 0, .int 1]], .op .eq [.var 2, .int 0]]), .put 3 (.var 4) (.ifx (.var 10) (.op .add [.op .sum [.var 8], .ifx (.op .lt [.op .len [.var 8], .op .len [.var 7]]) (.int 1) (.int 0)]) (.op .maxL [.comp (.op .ix [.var 3, .var 9]) [9] (.var 9) (.e (.var 7)) (.bl true)]))] []]
def wants (ts : List (List Int)) (h : Int) (t : List Int) : Bool := decide (t ∈ ts) == decide (h = 0)
def ldS (b : Nat) (ts : List (List Int)) (R : List D) (h : Int) (w : List Int) (r : Env) : Prop := ∃ x4 x5 x6 x7 x8 x10, r = [some (.d, cond b ts), some (.l .d, .list R), some (.d, .int h), some (.l .d, .list (ofInts w)), x4, x5, x6, x7, x8, none, x10]
theorem ld_step (T : Tbl) (b : Nat) (ts : List (List Int)) (R : List D) (N : Nat) (hR : RowsIn R N) (h : Int) (w : List Int) (r : Env) (i : Nat) (ii : Int) (hi : ii = i) (hN : i < N) (hw : w.length = N) (hs : ldS b ts R h w r) :
    ∃ r', (bindT (.var 4) (.int ii) r).bnd (fun r1 => execSs T ldB r1) = .ok (.nx r') ∧ ldS b ts R h (upd (wants ts h) R w i) r' ∧ (upd (wants ts h) R w i).length = N := by
  obtain ⟨x4, x5, x6, x7, x8, x10, rfl⟩ := hs
  rw [upd_len]
  obtain ⟨p, hat, hin⟩ := row_at hR (c := ii) (by omega) (by omega)
  unfold upd
  rw [← hi]
  generalize chOf R ii = cs at hat hin ⊢
  generalize lotOf R ii = l at hat ⊢
  have hx : ixN (ofInts w).length ii = some i := ixN_nat hi (by rw [ofInts_len]; omega)
  unfold row at hat
  by_cases hc : cs = []
  · rw [if_pos hc]
    have hd := decide_eq_true hc
    refine ⟨[some (.d, cond b ts), some (.l .d, .list R), some (.d, .int h), some (.l .d, .list (ofInts w)), some (.d, .int ii), some (.d, .tuple (ofInts l)), some (.d, p), some (.d, .tuple (ofInts cs)), x8, none, x10], ?_, ⟨_, _, _, _, _, _, rfl⟩, hw⟩
    show execSs T ldB [some (.d, cond b ts), some (.l .d, .list R), some (.d, .int h), some (.l .d, .list (ofInts w)), some (.d, .int ii), x5, x6, x7, x8, none, x10] = _
    unfold ldB
    simp -dsimp -implicitDefEqProofs only [ex_nil, ex_cons, then_nx, then_rt, then_ct, then_bk, ex_asg, ex_asgT, ex_par, ex_ret, ex_retMv, ex_ite, ex_brk, ex_cont, ev_var, ev_int, ev_bl, ev_non, ev_str, ev_dct, ev_tup, ev_lst, ev_op, ev_call, ev_and, ev_or, ev_not, ev_ifx, evs_nil, evs_cons, esv_nil, esv_cons, eas_nil, eas_var, eas_op, eas_int, eas_bl, eas_non, eas_str, eas_tup, eas_lst, eas_dct, eas_call, eas_and, eas_or, eas_not, eas_ifx, eas_comp, eas_slc, ex_put, putIn_l, ixN0, ixN1, fill_nil, fill_inl, fill_inr, asB_ok, bnd_ok, bnd_no, iff_t, iff_f, op_add, op_sub, op_neg, op_mul, op_fdiv, op_mod, op_gt, op_ge, op_lt, op_le, op_int, op_abs, op_min2, op_max2, op_lenL, op_lenS, op_lenD, op_lenT, op_tupL, op_tupD, op_ixL, op_ixD, op_ixS, op_ixT, atI0, atI1, setS_in, readV_eq, readO_d, readO_l, get_eq, getO_some, ixO_some, putO_some, List.getElem?_cons_zero, List.getElem?_cons_succ, List.set_cons_zero, List.set_cons_succ, List.length_cons, List.length_nil, Nat.reduceAdd, Nat.reduceLT, ne_eq, not_false_eq_true, and_self, true_and, and_true, hat, bindT_tup, bindTs_cons, bindTs_nil, bindT_var, op_neT0, hd, Bool.not_true]
  · rw [if_neg hc]
    have hd := decide_eq_false hc
    have C1 : evalE T (.comp (.op .ix [.var 3, .var 9]) [9] (.var 9) (.e (.var 7)) (.op .ne [.op .ix [.op .ix [.var 1, .var 9], .int 2], .tup []])) [some (.d, cond b ts), some (.l .d, .list R), some (.d, .int h), some (.l .d, .list (ofInts w)), some (.d, .int ii), some (.d, .tuple (ofInts l)), some (.d, p), some (.d, .tuple (ofInts cs)), x8, none, x10] = .ok ((.l .d, .list (ofInts ((deepOf R cs).map (wAt w)))), [some (.d, cond b ts), some (.l .d, .list R), some (.d, .int h), some (.l .d, .list (ofInts w)), some (.d, .int ii), some (.d, .tuple (ofInts l)), some (.d, p), some (.d, .tuple (ofInts cs)), x8, none, x10]) := by
      refine comp_ints (p := fun c => !decide (chOf R c = [])) (g := wAt w) (cs := cs) rfl rfl rfl (by show 9 < 11; decide) (fun c hc => ?_) fun c hc _ => ⟨.d, ?_⟩
      · obtain ⟨p2, hat2, _⟩ := row_at hR (hin c hc).1 (hin c hc).2
        unfold row at hat2
        show evalE T _ [some (.d, cond b ts), some (.l .d, .list R), some (.d, .int h), some (.l .d, .list (ofInts w)), some (.d, .int ii), some (.d, .tuple (ofInts l)), some (.d, p), some (.d, .tuple (ofInts cs)), x8, some (.d, .int c), x10] = PL.R.ok (_, [some (.d, cond b ts), some (.l .d, .list R), some (.d, .int h), some (.l .d, .list (ofInts w)), some (.d, .int ii), some (.d, .tuple (ofInts l)), some (.d, p), some (.d, .tuple (ofInts cs)), x8, some (.d, .int c), x10])
        simp -dsimp -implicitDefEqProofs only [ex_nil, ex_cons, then_nx, then_rt, then_ct, then_bk, ex_asg, ex_asgT, ex_par, ex_ret, ex_retMv, ex_ite, ex_brk, ex_cont, ev_var, ev_int, ev_bl, ev_non, ev_str, ev_dct, ev_tup, ev_lst, ev_op, ev_call, ev_and, ev_or, ev_not, ev_ifx, evs_nil, evs_cons, esv_nil, esv_cons, eas_nil, eas_var, eas_op, eas_int, eas_bl, eas_non, eas_str, eas_tup, eas_lst, eas_dct, eas_call, eas_and, eas_or, eas_not, eas_ifx, eas_comp, eas_slc, ex_put, putIn_l, ixN0, ixN1, fill_nil, fill_inl, fill_inr, asB_ok, bnd_ok, bnd_no, iff_t, iff_f, op_add, op_sub, op_neg, op_mul, op_fdiv, op_mod, op_gt, op_ge, op_lt, op_le, op_int, op_abs, op_min2, op_max2, op_lenL, op_lenS, op_lenD, op_lenT, op_tupL, op_tupD, op_ixL, op_ixD, op_ixS, op_ixT, atI0, atI1, setS_in, readV_eq, readO_d, readO_l, get_eq, getO_some, ixO_some, putO_some, List.getElem?_cons_zero, List.getElem?_cons_succ, List.set_cons_zero, List.set_cons_succ, List.length_cons, List.length_nil, Nat.reduceAdd, Nat.reduceLT, ne_eq, not_false_eq_true, and_self, true_and, and_true, hat2, atI2, op_neT0]
      · have hat2 := w_at hw (hin c hc).1 (hin c hc).2
        show evalE T _ [some (.d, cond b ts), some (.l .d, .list R), some (.d, .int h), some (.l .d, .list (ofInts w)), some (.d, .int ii), some (.d, .tuple (ofInts l)), some (.d, p), some (.d, .tuple (ofInts cs)), x8, some (.d, .int c), x10] = PL.R.ok (_, [some (.d, cond b ts), some (.l .d, .list R), some (.d, .int h), some (.l .d, .list (ofInts w)), some (.d, .int ii), some (.d, .tuple (ofInts l)), some (.d, p), some (.d, .tuple (ofInts cs)), x8, some (.d, .int c), x10])
        simp -dsimp -implicitDefEqProofs only [ex_nil, ex_cons, then_nx, then_rt, then_ct, then_bk, ex_asg, ex_asgT, ex_par, ex_ret, ex_retMv, ex_ite, ex_brk, ex_cont, ev_var, ev_int, ev_bl, ev_non, ev_str, ev_dct, ev_tup, ev_lst, ev_op, ev_call, ev_and, ev_or, ev_not, ev_ifx, evs_nil, evs_cons, esv_nil, esv_cons, eas_nil, eas_var, eas_op, eas_int, eas_bl, eas_non, eas_str, eas_tup, eas_lst, eas_dct, eas_call, eas_and, eas_or, eas_not, eas_ifx, eas_comp, eas_slc, ex_put, putIn_l, ixN0, ixN1, fill_nil, fill_inl, fill_inr, asB_ok, bnd_ok, bnd_no, iff_t, iff_f, op_add, op_sub, op_neg, op_mul, op_fdiv, op_mod, op_gt, op_ge, op_lt, op_le, op_int, op_abs, op_min2, op_max2, op_lenL, op_lenS, op_lenD, op_lenT, op_tupL, op_tupD, op_ixL, op_ixD, op_ixS, op_ixT, atI0, atI1, setS_in, readV_eq, readO_d, readO_l, get_eq, getO_some, ixO_some, putO_some, List.getElem?_cons_zero, List.getElem?_cons_succ, List.set_cons_zero, List.set_cons_succ, List.length_cons, List.length_nil, Nat.reduceAdd, Nat.reduceLT, ne_eq, not_false_eq_true, and_self, true_and, and_true, hat2]
    obtain ⟨q, hq⟩ : ∃ q, q = wants ts h l := ⟨_, rfl⟩
    have W : ∀ x8, evalE T (.op .eq [.op .isin [.var 5, .op .ix [.var 0, .int 1]], .op .eq [.var 2, .int 0]]) [some (.d, cond b ts), some (.l .d, .list R), some (.d, .int h), some (.l .d, .list (ofInts w)), some (.d, .int ii), some (.d, .tuple (ofInts l)), some (.d, p), some (.d, .tuple (ofInts cs)), x8, none, x10] = .ok ((.d, .bool q), [some (.d, cond b ts), some (.l .d, .list R), some (.d, .int h), some (.l .d, .list (ofInts w)), some (.d, .int ii), some (.d, .tuple (ofInts l)), some (.d, p), some (.d, .tuple (ofInts cs)), x8, none, x10]) := by
      intro x8
      rw [hq]
      unfold cond wants
      simp -dsimp -implicitDefEqProofs only [ex_nil, ex_cons, then_nx, then_rt, then_ct, then_bk, ex_asg, ex_asgT, ex_par, ex_ret, ex_retMv, ex_ite, ex_brk, ex_cont, ev_var, ev_int, ev_bl, ev_non, ev_str, ev_dct, ev_tup, ev_lst, ev_op, ev_call, ev_and, ev_or, ev_not, ev_ifx, evs_nil, evs_cons, esv_nil, esv_cons, eas_nil, eas_var, eas_op, eas_int, eas_bl, eas_non, eas_str, eas_tup, eas_lst, eas_dct, eas_call, eas_and, eas_or, eas_not, eas_ifx, eas_comp, eas_slc, ex_put, putIn_l, ixN0, ixN1, fill_nil, fill_inl, fill_inr, asB_ok, bnd_ok, bnd_no, iff_t, iff_f, op_add, op_sub, op_neg, op_mul, op_fdiv, op_mod, op_gt, op_ge, op_lt, op_le, op_int, op_abs, op_min2, op_max2, op_lenL, op_lenS, op_lenD, op_lenT, op_tupL, op_tupD, op_ixL, op_ixD, op_ixS, op_ixT, atI0, atI1, setS_in, readV_eq, readO_d, readO_l, get_eq, getO_some, ixO_some, putO_some, List.getElem?_cons_zero, List.getElem?_cons_succ, List.set_cons_zero, List.set_cons_succ, List.length_cons, List.length_nil, Nat.reduceAdd, Nat.reduceLT, ne_eq, not_false_eq_true, and_self, true_and, and_true, op_inTups, op_eqI, op_eqB]
    have hln : ∀ xs : List Int, (decide (((ofInts (xs.map (wAt w))).length : Int) < ((ofInts cs).length : Int))) = decide (xs.length < cs.length) := fun xs => by
      rw [ofInts_len, ofInts_len, List.length_map, decide_eq_decide]
      omega
    rw [← hq]
    refine ⟨[some (.d, cond b ts), some (.l .d, .list R), some (.d, .int h), some (.l .d, .list (ofInts (w.set i (val q R w cs)))), some (.d, .int ii), some (.d, .tuple (ofInts l)), some (.d, p), some (.d, .tuple (ofInts cs)), some (.l .d, .list (ofInts ((deepOf R cs).map (wAt w)))), none, some (.d, .bool q)], ?_, ⟨_, _, _, _, _, _, rfl⟩, hw⟩
    show execSs T ldB [some (.d, cond b ts), some (.l .d, .list R), some (.d, .int h), some (.l .d, .list (ofInts w)), some (.d, .int ii), x5, x6, x7, x8, none, x10] = _
    cases q with
    | true =>
      unfold val
      rw [if_pos rfl]
      cases hb : decide ((deepOf R cs).length < cs.length) with
      | true =>
        rw [if_pos (of_decide_eq_true hb)]
        unfold ldB
        simp -dsimp -implicitDefEqProofs only [ex_nil, ex_cons, then_nx, then_rt, then_ct, then_bk, ex_asg, ex_asgT, ex_par, ex_ret, ex_retMv, ex_ite, ex_brk, ex_cont, ev_var, ev_int, ev_bl, ev_non, ev_str, ev_dct, ev_tup, ev_lst, ev_op, ev_call, ev_and, ev_or, ev_not, ev_ifx, evs_nil, evs_cons, esv_nil, esv_cons, eas_nil, eas_var, eas_op, eas_int, eas_bl, eas_non, eas_str, eas_tup, eas_lst, eas_dct, eas_call, eas_and, eas_or, eas_not, eas_ifx, eas_comp, eas_slc, ex_put, putIn_l, ixN0, ixN1, fill_nil, fill_inl, fill_inr, asB_ok, bnd_ok, bnd_no, iff_t, iff_f, op_add, op_sub, op_neg, op_mul, op_fdiv, op_mod, op_gt, op_ge, op_lt, op_le, op_int, op_abs, op_min2, op_max2, op_lenL, op_lenS, op_lenD, op_lenT, op_tupL, op_tupD, op_ixL, op_ixD, op_ixS, op_ixT, atI0, atI1, setS_in, readV_eq, readO_d, readO_l, get_eq, getO_some, ixO_some, putO_some, List.getElem?_cons_zero, List.getElem?_cons_succ, List.set_cons_zero, List.set_cons_succ, List.length_cons, List.length_nil, Nat.reduceAdd, Nat.reduceLT, ne_eq, not_false_eq_true, and_self, true_and, and_true, hat, bindT_tup, bindTs_cons, bindTs_nil, bindT_var, op_neT0, hd, Bool.not_false, C1, W, op_sumL, hln, hb, hx, ofInts_set]
      | false =>
        rw [if_neg (of_decide_eq_false hb)]
        unfold ldB
        simp -dsimp -implicitDefEqProofs only [ex_nil, ex_cons, then_nx, then_rt, then_ct, then_bk, ex_asg, ex_asgT, ex_par, ex_ret, ex_retMv, ex_ite, ex_brk, ex_cont, ev_var, ev_int, ev_bl, ev_non, ev_str, ev_dct, ev_tup, ev_lst, ev_op, ev_call, ev_and, ev_or, ev_not, ev_ifx, evs_nil, evs_cons, esv_nil, esv_cons, eas_nil, eas_var, eas_op, eas_int, eas_bl, eas_non, eas_str, eas_tup, eas_lst, eas_dct, eas_call, eas_and, eas_or, eas_not, eas_ifx, eas_comp, eas_slc, ex_put, putIn_l, ixN0, ixN1, fill_nil, fill_inl, fill_inr, asB_ok, bnd_ok, bnd_no, iff_t, iff_f, op_add, op_sub, op_neg, op_mul, op_fdiv, op_mod, op_gt, op_ge, op_lt, op_le, op_int, op_abs, op_min2, op_max2, op_lenL, op_lenS, op_lenD, op_lenT, op_tupL, op_tupD, op_ixL, op_ixD, op_ixS, op_ixT, atI0, atI1, setS_in, readV_eq, readO_d, readO_l, get_eq, getO_some, ixO_some, putO_some, List.getElem?_cons_zero, List.getElem?_cons_succ, List.set_cons_zero, List.set_cons_succ, List.length_cons, List.length_nil, Nat.reduceAdd, Nat.reduceLT, ne_eq, not_false_eq_true, and_self, true_and, and_true, hat, bindT_tup, bindTs_cons, bindTs_nil, bindT_var, op_neT0, hd, Bool.not_false, C1, W, op_sumL, hln, hb, hx, ofInts_set]
    | false =>
      obtain ⟨n, ns, hn⟩ : ∃ n ns, cs.map (wAt w) = n :: ns := by
        cases cs with
        | nil => exact absurd rfl hc
        | cons a as => exact ⟨_, _, rfl⟩
      have C2 : ∀ x8, evalE T (.comp (.op .ix [.var 3, .var 9]) [9] (.var 9) (.e (.var 7)) (.bl true)) [some (.d, cond b ts), some (.l .d, .list R), some (.d, .int h), some (.l .d, .list (ofInts w)), some (.d, .int ii), some (.d, .tuple (ofInts l)), some (.d, p), some (.d, .tuple (ofInts cs)), x8, none, some (.d, .bool false)] = .ok ((.l .d, .list (ofInts (n :: ns))), [some (.d, cond b ts), some (.l .d, .list R), some (.d, .int h), some (.l .d, .list (ofInts w)), some (.d, .int ii), some (.d, .tuple (ofInts l)), some (.d, p), some (.d, .tuple (ofInts cs)), x8, none, some (.d, .bool false)]) := by
        intro x8
        refine (comp_ints (p := fun _ => true) (g := wAt w) (cs := cs) rfl rfl rfl (by show 9 < 11; decide) (fun c hc => rfl) fun c hc _ => ⟨.d, ?_⟩).trans (by rw [List.filter_eq_self.mpr fun _ _ => rfl, hn])
        have hat2 := w_at hw (hin c hc).1 (hin c hc).2
        show evalE T _ [some (.d, cond b ts), some (.l .d, .list R), some (.d, .int h), some (.l .d, .list (ofInts w)), some (.d, .int ii), some (.d, .tuple (ofInts l)), some (.d, p), some (.d, .tuple (ofInts cs)), x8, some (.d, .int c), some (.d, .bool false)] = PL.R.ok (_, [some (.d, cond b ts), some (.l .d, .list R), some (.d, .int h), some (.l .d, .list (ofInts w)), some (.d, .int ii), some (.d, .tuple (ofInts l)), some (.d, p), some (.d, .tuple (ofInts cs)), x8, some (.d, .int c), some (.d, .bool false)])
        simp -dsimp -implicitDefEqProofs only [ex_nil, ex_cons, then_nx, then_rt, then_ct, then_bk, ex_asg, ex_asgT, ex_par, ex_ret, ex_retMv, ex_ite, ex_brk, ex_cont, ev_var, ev_int, ev_bl, ev_non, ev_str, ev_dct, ev_tup, ev_lst, ev_op, ev_call, ev_and, ev_or, ev_not, ev_ifx, evs_nil, evs_cons, esv_nil, esv_cons, eas_nil, eas_var, eas_op, eas_int, eas_bl, eas_non, eas_str, eas_tup, eas_lst, eas_dct, eas_call, eas_and, eas_or, eas_not, eas_ifx, eas_comp, eas_slc, ex_put, putIn_l, ixN0, ixN1, fill_nil, fill_inl, fill_inr, asB_ok, bnd_ok, bnd_no, iff_t, iff_f, op_add, op_sub, op_neg, op_mul, op_fdiv, op_mod, op_gt, op_ge, op_lt, op_le, op_int, op_abs, op_min2, op_max2, op_lenL, op_lenS, op_lenD, op_lenT, op_tupL, op_tupD, op_ixL, op_ixD, op_ixS, op_ixT, atI0, atI1, setS_in, readV_eq, readO_d, readO_l, get_eq, getO_some, ixO_some, putO_some, List.getElem?_cons_zero, List.getElem?_cons_succ, List.set_cons_zero, List.set_cons_succ, List.length_cons, List.length_nil, Nat.reduceAdd, Nat.reduceLT, ne_eq, not_false_eq_true, and_self, true_and, and_true, hat2]
      have hv : val false R w cs = maxI ns n := by
        unfold val
        rw [if_neg (by decide), hn]
      rw [hv]
      unfold ldB
      simp -dsimp -implicitDefEqProofs only [ex_nil, ex_cons, then_nx, then_rt, then_ct, then_bk, ex_asg, ex_asgT, ex_par, ex_ret, ex_retMv, ex_ite, ex_brk, ex_cont, ev_var, ev_int, ev_bl, ev_non, ev_str, ev_dct, ev_tup, ev_lst, ev_op, ev_call, ev_and, ev_or, ev_not, ev_ifx, evs_nil, evs_cons, esv_nil, esv_cons, eas_nil, eas_var, eas_op, eas_int, eas_bl, eas_non, eas_str, eas_tup, eas_lst, eas_dct, eas_call, eas_and, eas_or, eas_not, eas_ifx, eas_comp, eas_slc, ex_put, putIn_l, ixN0, ixN1, fill_nil, fill_inl, fill_inr, asB_ok, bnd_ok, bnd_no, iff_t, iff_f, op_add, op_sub, op_neg, op_mul, op_fdiv, op_mod, op_gt, op_ge, op_lt, op_le, op_int, op_abs, op_min2, op_max2, op_lenL, op_lenS, op_lenD, op_lenT, op_tupL, op_tupD, op_ixL, op_ixD, op_ixS, op_ixT, atI0, atI1, setS_in, readV_eq, readO_d, readO_l, get_eq, getO_some, ixO_some, putO_some, List.getElem?_cons_zero, List.getElem?_cons_succ, List.set_cons_zero, List.set_cons_succ, List.length_cons, List.length_nil, Nat.reduceAdd, Nat.reduceLT, ne_eq, not_false_eq_true, and_self, true_and, and_true, hat, bindT_tup, bindTs_cons, bindTs_nil, bindT_var, op_neT0, hd, Bool.not_false, C1, W, C2, op_maxLI, hx, ofInts_set]
end K02
end PL
end

section
set_option Elab.async false
set_option linter.all false
set_option maxRecDepth 100000
set_option autoImplicit false
/-! PL02l: dice by rows, the program's, and the loops. -/
namespace PL
open PySem
theorem rep_flat {k : Nat} {x : D} : (List.replicate k [x]).flatten = List.replicate k x := by
  induction k with
  | zero => rfl
  | succ k ih => rw [List.replicate_succ, List.flatten_cons, ih, List.replicate_succ]; rfl
theorem op_mulRep {x : D} {k : Int} (h : (small k && decide (1 * k.toNat ≤ sizeCap)) = true) : opV .mul [(.d, .list [x]), (.d, .int k)] = .ok (.l .d, .list (List.replicate k.toNat x)) := by
  show (if (small k && decide (1 * k.toNat ≤ sizeCap)) = true then mk (.list (List.replicate k.toNat [x]).flatten) else .no) = _
  rw [if_pos h, rep_flat]
  rfl
theorem replicate_ints {k : Nat} {i : Int} : List.replicate k (PyData.int i) = ofInts (List.replicate k i) := by
  unfold ofInts
  rw [List.map_replicate]
theorem rangeN_down {N : Nat} {m : Int} (h : m = (N : Int) - 1) : rangeN (m - -1).toNat m (-1) = (List.range' (N - N) N).map fun (i : Nat) => PyData.int ((N : Int) - 1 + (i : Int) * -1) := by
  unfold rangeN
  subst h
  have : ((N : Int) - 1 - -1).toNat = N := by omega
  rw [this, Nat.sub_self, ← List.range_eq_range']
namespace K02
def diceW (q : List Int → Bool) (R : List D) (N : Nat) : List Int := (desc N).foldl (upd q R) (List.replicate N 1)
theorem diceW_len (q : List Int → Bool) (R : List D) (N : Nat) : (diceW q R N).length = N := by
  have : ∀ (is : List Nat) (w : List Int), (is.foldl (upd q R) w).length = w.length := by
    intro is
    induction is with
    | nil => exact fun _ => rfl
    | cons i is ih => exact fun w => (ih _).trans upd_len
  unfold diceW
  rw [this, List.length_replicate]
theorem ldice_run (T : Tbl) (b : Nat) (ts : List (List Int)) (R : List D) (N : Nat) (hR : RowsIn R N) (hN : N ≤ 2000) (h : Int) : runDef T p24_law_dice [(.d, cond b ts), (.l .d, .list R), (.d, .int h)] = .ok ((.l .d, .list (ofInts (diceW (wants ts h) R N))), [(.d, cond b ts), (.l .d, .list R), (.d, .int h)]) := by
  obtain ⟨r', e, ⟨x4, x5, x6, x7, x8, x10, rfl⟩, _⟩ := desc_loop (turn := fun x r => (bindT (.var 4) x r).bnd fun r1 => execSs T ldB r1) (N := N) (f := upd (wants ts h) R) (S := ldS b ts R h) (fun w r i ii hi hN hw hs => ld_step T b ts R N hR h w r i ii hi hN hw hs) N (List.replicate N 1) [some (.d, cond b ts), some (.l .d, .list R), some (.d, .int h), some (.l .d, .list (ofInts (List.replicate N 1))), none, none, none, none, none, none, none] (Nat.le_refl _) (List.length_replicate ..) ⟨_, _, _, _, _, _, rfl⟩
  obtain ⟨L, hL⟩ : ∃ L : Int, ((R.length : Nat) : Int) = L := ⟨_, rfl⟩
  have hLN : L = N := by rw [← hL, hR.1]
  have hmul : opV .mul [(.d, .list [.int 1]), (.d, .int L)] = .ok (.l .d, .list (ofInts (List.replicate N 1))) := by
    rw [op_mulRep (by rw [small_int (by omega) (by omega), decide_eq_true (cap_le (by omega))]; rfl), replicate_ints, show L.toNat = N by omega]
  refine run_rt (ρ := [some (.d, cond b ts), some (.l .d, .list R), some (.d, .int h), none, x4, x5, x6, x7, x8, none, x10]) ⟨rfl, by decide, rfl⟩ ?_ rfl
  have I : evalI T (.range3 (.op .sub [.op .len [.var 1], .int 1]) (.op .neg [.int 1]) (.op .neg [.int 1])) [some (.d, cond b ts), some (.l .d, .list R), some (.d, .int h), some (.l .d, .list (ofInts (List.replicate N 1))), none, none, none, none, none, none, none] = .ok ((List.range' (N - N) N).map fun (i : Nat) => PyData.int ((N : Int) - 1 + (i : Int) * -1), [some (.d, cond b ts), some (.l .d, .list R), some (.d, .int h), some (.l .d, .list (ofInts (List.replicate N 1))), none, none, none, none, none, none, none]) := by
    rw [← rangeN_down (m := L - 1) (by omega)]
    refine ei_range3_ok (k1 := .d) (k2 := .d) (k3 := .d) (n := -1) (s := -1) (by simp -dsimp -implicitDefEqProofs only [ex_nil, ex_cons, then_nx, then_rt, then_ct, then_bk, ex_asg, ex_asgT, ex_par, ex_ret, ex_retMv, ex_ite, ex_brk, ex_cont, ev_var, ev_int, ev_bl, ev_non, ev_str, ev_dct, ev_tup, ev_lst, ev_op, ev_call, ev_and, ev_or, ev_not, ev_ifx, evs_nil, evs_cons, esv_nil, esv_cons, eas_nil, eas_var, eas_op, eas_int, eas_bl, eas_non, eas_str, eas_tup, eas_lst, eas_dct, eas_call, eas_and, eas_or, eas_not, eas_ifx, eas_comp, eas_slc, ex_put, putIn_l, ixN0, ixN1, fill_nil, fill_inl, fill_inr, asB_ok, bnd_ok, bnd_no, iff_t, iff_f, op_add, op_sub, op_neg, op_mul, op_fdiv, op_mod, op_gt, op_ge, op_lt, op_le, op_int, op_abs, op_min2, op_max2, op_lenL, op_lenS, op_lenD, op_lenT, op_tupL, op_tupD, op_ixL, op_ixD, op_ixS, op_ixT, atI0, atI1, setS_in, readV_eq, readO_d, readO_l, get_eq, getO_some, ixO_some, putO_some, List.getElem?_cons_zero, List.getElem?_cons_succ, List.set_cons_zero, List.set_cons_succ, List.length_cons, List.length_nil, Nat.reduceAdd, Nat.reduceLT, ne_eq, not_false_eq_true, and_self, true_and, and_true, hL]) rfl rfl ?_
    have s1 : small (L - 1) = true := by
      unfold small
      rw [decide_eq_true (by omega), decide_eq_true (by omega)]
      rfl
    rw [s1]
    decide
  have F : execS T (.for_ (.var 4) (.range3 (.op .sub [.op .len [.var 1], .int 1]) (.op .neg [.int 1]) (.op .neg [.int 1])) ldB) [some (.d, cond b ts), some (.l .d, .list R), some (.d, .int h), some (.l .d, .list (ofInts (List.replicate N 1))), none, none, none, none, none, none, none] = .ok (.nx [some (.d, cond b ts), some (.l .d, .list R), some (.d, .int h), some (.l .d, .list (ofInts (diceW (wants ts h) R N))), x4, x5, x6, x7, x8, none, x10]) := by
    rw [ex_for, I, bnd_ok]
    exact e
  show execSs T [.asg (.var 3) (.op .mul [.lst [.int 1], .op .len [.var 1]]), .for_ (.var 4) (.range3 (.op .sub [.op .len [.var 1], .int 1]) (.op .neg [.int 1]) (.op .neg [.int 1])) ldB, .retMv 3] [some (.d, cond b ts), some (.l .d, .list R), some (.d, .int h), none, none, none, none, none, none, none, none] = _
  simp -dsimp -implicitDefEqProofs only [ex_nil, ex_cons, then_nx, then_rt, then_ct, then_bk, ex_asg, ex_asgT, ex_par, ex_ret, ex_retMv, ex_ite, ex_brk, ex_cont, ev_var, ev_int, ev_bl, ev_non, ev_str, ev_dct, ev_tup, ev_lst, ev_op, ev_call, ev_and, ev_or, ev_not, ev_ifx, evs_nil, evs_cons, esv_nil, esv_cons, eas_nil, eas_var, eas_op, eas_int, eas_bl, eas_non, eas_str, eas_tup, eas_lst, eas_dct, eas_call, eas_and, eas_or, eas_not, eas_ifx, eas_comp, eas_slc, ex_put, putIn_l, ixN0, ixN1, fill_nil, fill_inl, fill_inr, asB_ok, bnd_ok, bnd_no, iff_t, iff_f, op_add, op_sub, op_neg, op_mul, op_fdiv, op_mod, op_gt, op_ge, op_lt, op_le, op_int, op_abs, op_min2, op_max2, op_lenL, op_lenS, op_lenD, op_lenT, op_tupL, op_tupD, op_ixL, op_ixD, op_ixS, op_ixT, atI0, atI1, setS_in, readV_eq, readO_d, readO_l, get_eq, getO_some, ixO_some, putO_some, List.getElem?_cons_zero, List.getElem?_cons_succ, List.set_cons_zero, List.set_cons_succ, List.length_cons, List.length_nil, Nat.reduceAdd, Nat.reduceLT, ne_eq, not_false_eq_true, and_self, true_and, and_true, hL, hmul, F]
/-! ### the program's -/
theorem flat_run (T : Tbl) (R : List D) (N : Nat) (hR : RowsIn R N) (c : Int) (c0 : 0 ≤ c) (c1 : c < N) : runDef T p7_is_flat [(.d, .tuple R), (.d, .int c)] = .ok ((.d, .bool (decide (chOf R c = []))), [(.d, .tuple R), (.d, .int c)]) := by
  obtain ⟨p, hat, _⟩ := row_at hR c0 c1
  unfold row at hat
  have e : decide (((ofInts (chOf R c)).length : Int) = 0) = decide (chOf R c = []) := by
    rw [ofInts_len, decide_eq_decide]
    cases chOf R c with
    | nil => exact ⟨fun _ => rfl, fun _ => rfl⟩
    | cons a as => exact ⟨fun h => by rw [List.length_cons] at h; omega, fun h => nomatch h⟩
  refine run_rt (ρ := [some (.d, .tuple R), some (.d, .int c)]) ⟨rfl, by decide, rfl⟩ ?_ rfl
  show execSs T p7_is_flat.body [some (.d, .tuple R), some (.d, .int c)] = _
  unfold p7_is_flat
  simp -dsimp -implicitDefEqProofs only [ex_nil, ex_cons, then_nx, then_rt, then_ct, then_bk, ex_asg, ex_asgT, ex_par, ex_ret, ex_retMv, ex_ite, ex_brk, ex_cont, ev_var, ev_int, ev_bl, ev_non, ev_str, ev_dct, ev_tup, ev_lst, ev_op, ev_call, ev_and, ev_or, ev_not, ev_ifx, evs_nil, evs_cons, esv_nil, esv_cons, eas_nil, eas_var, eas_op, eas_int, eas_bl, eas_non, eas_str, eas_tup, eas_lst, eas_dct, eas_call, eas_and, eas_or, eas_not, eas_ifx, eas_comp, eas_slc, ex_put, putIn_l, ixN0, ixN1, fill_nil, fill_inl, fill_inr, asB_ok, bnd_ok, bnd_no, iff_t, iff_f, op_add, op_sub, op_neg, op_mul, op_fdiv, op_mod, op_gt, op_ge, op_lt, op_le, op_int, op_abs, op_min2, op_max2, op_lenL, op_lenS, op_lenD, op_lenT, op_tupL, op_tupD, op_ixL, op_ixD, op_ixS, op_ixT, atI0, atI1, setS_in, readV_eq, readO_d, readO_l, get_eq, getO_some, ixO_some, putO_some, List.getElem?_cons_zero, List.getElem?_cons_succ, List.set_cons_zero, List.set_cons_succ, List.length_cons, List.length_nil, Nat.reduceAdd, Nat.reduceLT, ne_eq, not_false_eq_true, and_self, true_and, and_true, hat, atI2, op_eqI, e]
def FlatOk (T : Tbl) : Prop := ∀ (R : List D) (N : Nat), RowsIn R N → ∀ c : Int, 0 ≤ c → c < N → T.f 7 [(.d, .tuple R), (.d, .int c)] = .ok ((.d, .bool (decide (chOf R c = []))), [(.d, .tuple R), (.d, .int c)])
theorem doc_run (T : Tbl) (hf : FlatOk T) (R : List D) (N : Nat) (hR : RowsIn R N) (w cs : List Int) (hw : w.length = N) (hc : cs ≠ []) (hin : ∀ c ∈ cs, 0 ≤ c ∧ c < N) (q : Bool) : runDef T p8_dice_of_children [(.d, .tuple R), (.l .d, .list (ofInts w)), (.d, .tuple (ofInts cs)), (.d, .bool q)] = .ok ((.d, .int (val q R w cs)), [(.d, .tuple R), (.l .d, .list (ofInts w)), (.d, .tuple (ofInts cs)), (.d, .bool q)]) := by
  cases q with
  | false =>
    obtain ⟨n, ns, hn⟩ : ∃ n ns, cs.map (wAt w) = n :: ns := by
      cases cs with
      | nil => exact absurd rfl hc
      | cons a as => exact ⟨_, _, rfl⟩
    have C2 : evalE T (.comp (.op .ix [.var 1, .var 4]) [4] (.var 4) (.e (.var 2)) (.bl true)) [some (.d, .tuple R), some (.l .d, .list (ofInts w)), some (.d, .tuple (ofInts cs)), some (.d, .bool false), none, none] = .ok ((.l .d, .list (ofInts (n :: ns))), [some (.d, .tuple R), some (.l .d, .list (ofInts w)), some (.d, .tuple (ofInts cs)), some (.d, .bool false), none, none]) := by
      refine (comp_ints (p := fun _ => true) (g := wAt w) (cs := cs) rfl rfl rfl (by show 4 < 6; decide) (fun c hc => rfl) fun c hc _ => ⟨.d, ?_⟩).trans (by rw [List.filter_eq_self.mpr fun _ _ => rfl, hn])
      have hat2 := w_at hw (hin c hc).1 (hin c hc).2
      show evalE T _ [some (.d, .tuple R), some (.l .d, .list (ofInts w)), some (.d, .tuple (ofInts cs)), some (.d, .bool false), some (.d, .int c), none] = PL.R.ok (_, [some (.d, .tuple R), some (.l .d, .list (ofInts w)), some (.d, .tuple (ofInts cs)), some (.d, .bool false), some (.d, .int c), none])
      simp -dsimp -implicitDefEqProofs only [ex_nil, ex_cons, then_nx, then_rt, then_ct, then_bk, ex_asg, ex_asgT, ex_par, ex_ret, ex_retMv, ex_ite, ex_brk, ex_cont, ev_var, ev_int, ev_bl, ev_non, ev_str, ev_dct, ev_tup, ev_lst, ev_op, ev_call, ev_and, ev_or, ev_not, ev_ifx, evs_nil, evs_cons, esv_nil, esv_cons, eas_nil, eas_var, eas_op, eas_int, eas_bl, eas_non, eas_str, eas_tup, eas_lst, eas_dct, eas_call, eas_and, eas_or, eas_not, eas_ifx, eas_comp, eas_slc, ex_put, putIn_l, ixN0, ixN1, fill_nil, fill_inl, fill_inr, asB_ok, bnd_ok, bnd_no, iff_t, iff_f, op_add, op_sub, op_neg, op_mul, op_fdiv, op_mod, op_gt, op_ge, op_lt, op_le, op_int, op_abs, op_min2, op_max2, op_lenL, op_lenS, op_lenD, op_lenT, op_tupL, op_tupD, op_ixL, op_ixD, op_ixS, op_ixT, atI0, atI1, setS_in, readV_eq, readO_d, readO_l, get_eq, getO_some, ixO_some, putO_some, List.getElem?_cons_zero, List.getElem?_cons_succ, List.set_cons_zero, List.set_cons_succ, List.length_cons, List.length_nil, Nat.reduceAdd, Nat.reduceLT, ne_eq, not_false_eq_true, and_self, true_and, and_true, hat2]
    have hv : val false R w cs = maxI ns n := by
      unfold val
      rw [if_neg (by decide), hn]
    rw [hv]
    refine run_rt (ρ := [some (.d, .tuple R), some (.l .d, .list (ofInts w)), some (.d, .tuple (ofInts cs)), some (.d, .bool false), none, none]) ⟨rfl, by decide, rfl⟩ ?_ rfl
    show execSs T p8_dice_of_children.body [some (.d, .tuple R), some (.l .d, .list (ofInts w)), some (.d, .tuple (ofInts cs)), some (.d, .bool false), none, none] = _
    unfold p8_dice_of_children
    simp -dsimp -implicitDefEqProofs only [ex_nil, ex_cons, then_nx, then_rt, then_ct, then_bk, ex_asg, ex_asgT, ex_par, ex_ret, ex_retMv, ex_ite, ex_brk, ex_cont, ev_var, ev_int, ev_bl, ev_non, ev_str, ev_dct, ev_tup, ev_lst, ev_op, ev_call, ev_and, ev_or, ev_not, ev_ifx, evs_nil, evs_cons, esv_nil, esv_cons, eas_nil, eas_var, eas_op, eas_int, eas_bl, eas_non, eas_str, eas_tup, eas_lst, eas_dct, eas_call, eas_and, eas_or, eas_not, eas_ifx, eas_comp, eas_slc, ex_put, putIn_l, ixN0, ixN1, fill_nil, fill_inl, fill_inr, asB_ok, bnd_ok, bnd_no, iff_t, iff_f, op_add, op_sub, op_neg, op_mul, op_fdiv, op_mod, op_gt, op_ge, op_lt, op_le, op_int, op_abs, op_min2, op_max2, op_lenL, op_lenS, op_lenD, op_lenT, op_tupL, op_tupD, op_ixL, op_ixD, op_ixS, op_ixT, atI0, atI1, setS_in, readV_eq, readO_d, readO_l, get_eq, getO_some, ixO_some, putO_some, List.getElem?_cons_zero, List.getElem?_cons_succ, List.set_cons_zero, List.set_cons_succ, List.length_cons, List.length_nil, Nat.reduceAdd, Nat.reduceLT, ne_eq, not_false_eq_true, and_self, true_and, and_true, Bool.not_false, C2, op_maxLI]
  | true =>
    have C1 : evalE T (.comp (.var 4) [4] (.var 4) (.e (.var 2)) (.not (.call 7 [.var 0, .var 4]))) [some (.d, .tuple R), some (.l .d, .list (ofInts w)), some (.d, .tuple (ofInts cs)), some (.d, .bool true), none, none] = .ok ((.l .d, .list (ofInts (deepOf R cs))), [some (.d, .tuple R), some (.l .d, .list (ofInts w)), some (.d, .tuple (ofInts cs)), some (.d, .bool true), none, none]) := by
      refine (comp_ints (p := fun c => !decide (chOf R c = [])) (g := fun c => c) (cs := cs) rfl rfl rfl (by show 4 < 6; decide) (fun c hc => ?_) fun c hc _ => ⟨.d, ?_⟩).trans (by rw [List.map_id']; rfl)
      · have hf := hf R N hR c (hin c hc).1 (hin c hc).2
        show evalE T _ [some (.d, .tuple R), some (.l .d, .list (ofInts w)), some (.d, .tuple (ofInts cs)), some (.d, .bool true), some (.d, .int c), none] = PL.R.ok (_, [some (.d, .tuple R), some (.l .d, .list (ofInts w)), some (.d, .tuple (ofInts cs)), some (.d, .bool true), some (.d, .int c), none])
        simp -dsimp -implicitDefEqProofs only [ex_nil, ex_cons, then_nx, then_rt, then_ct, then_bk, ex_asg, ex_asgT, ex_par, ex_ret, ex_retMv, ex_ite, ex_brk, ex_cont, ev_var, ev_int, ev_bl, ev_non, ev_str, ev_dct, ev_tup, ev_lst, ev_op, ev_call, ev_and, ev_or, ev_not, ev_ifx, evs_nil, evs_cons, esv_nil, esv_cons, eas_nil, eas_var, eas_op, eas_int, eas_bl, eas_non, eas_str, eas_tup, eas_lst, eas_dct, eas_call, eas_and, eas_or, eas_not, eas_ifx, eas_comp, eas_slc, ex_put, putIn_l, ixN0, ixN1, fill_nil, fill_inl, fill_inr, asB_ok, bnd_ok, bnd_no, iff_t, iff_f, op_add, op_sub, op_neg, op_mul, op_fdiv, op_mod, op_gt, op_ge, op_lt, op_le, op_int, op_abs, op_min2, op_max2, op_lenL, op_lenS, op_lenD, op_lenT, op_tupL, op_tupD, op_ixL, op_ixD, op_ixS, op_ixT, atI0, atI1, setS_in, readV_eq, readO_d, readO_l, get_eq, getO_some, ixO_some, putO_some, List.getElem?_cons_zero, List.getElem?_cons_succ, List.set_cons_zero, List.set_cons_succ, List.length_cons, List.length_nil, Nat.reduceAdd, Nat.reduceLT, ne_eq, not_false_eq_true, and_self, true_and, and_true, own_d, own_n, nd_nil, pb_d, pb_n, noS_d, hf]
      · show evalE T _ [some (.d, .tuple R), some (.l .d, .list (ofInts w)), some (.d, .tuple (ofInts cs)), some (.d, .bool true), some (.d, .int c), none] = PL.R.ok (_, [some (.d, .tuple R), some (.l .d, .list (ofInts w)), some (.d, .tuple (ofInts cs)), some (.d, .bool true), some (.d, .int c), none])
        simp -dsimp -implicitDefEqProofs only [ex_nil, ex_cons, then_nx, then_rt, then_ct, then_bk, ex_asg, ex_asgT, ex_par, ex_ret, ex_retMv, ex_ite, ex_brk, ex_cont, ev_var, ev_int, ev_bl, ev_non, ev_str, ev_dct, ev_tup, ev_lst, ev_op, ev_call, ev_and, ev_or, ev_not, ev_ifx, evs_nil, evs_cons, esv_nil, esv_cons, eas_nil, eas_var, eas_op, eas_int, eas_bl, eas_non, eas_str, eas_tup, eas_lst, eas_dct, eas_call, eas_and, eas_or, eas_not, eas_ifx, eas_comp, eas_slc, ex_put, putIn_l, ixN0, ixN1, fill_nil, fill_inl, fill_inr, asB_ok, bnd_ok, bnd_no, iff_t, iff_f, op_add, op_sub, op_neg, op_mul, op_fdiv, op_mod, op_gt, op_ge, op_lt, op_le, op_int, op_abs, op_min2, op_max2, op_lenL, op_lenS, op_lenD, op_lenT, op_tupL, op_tupD, op_ixL, op_ixD, op_ixS, op_ixT, atI0, atI1, setS_in, readV_eq, readO_d, readO_l, get_eq, getO_some, ixO_some, putO_some, List.getElem?_cons_zero, List.getElem?_cons_succ, List.set_cons_zero, List.set_cons_succ, List.length_cons, List.length_nil, Nat.reduceAdd, Nat.reduceLT, ne_eq, not_false_eq_true, and_self, true_and, and_true]
    have C2 : evalE T (.comp (.op .ix [.var 1, .var 4]) [4] (.var 4) (.e (.var 5)) (.bl true)) [some (.d, .tuple R), some (.l .d, .list (ofInts w)), some (.d, .tuple (ofInts cs)), some (.d, .bool true), none, some (.l .d, .list (ofInts (deepOf R cs)))] = .ok ((.l .d, .list (ofInts ((deepOf R cs).map (wAt w)))), [some (.d, .tuple R), some (.l .d, .list (ofInts w)), some (.d, .tuple (ofInts cs)), some (.d, .bool true), none, some (.d, .list (ofInts (deepOf R cs)))]) := by
      refine (comp_ints (p := fun _ => true) (g := wAt w) (cs := deepOf R cs) (ρ1 := [some (.d, .tuple R), some (.l .d, .list (ofInts w)), some (.d, .tuple (ofInts cs)), some (.d, .bool true), none, some (.d, .list (ofInts (deepOf R cs)))]) rfl rfl rfl (by show 4 < 6; decide) (fun c hc => rfl) fun c hc _ => ⟨.d, ?_⟩).trans (by rw [List.filter_eq_self.mpr fun _ _ => rfl])
      have hc := (List.mem_filter.mp hc).1
      have hat2 := w_at hw (hin c hc).1 (hin c hc).2
      show evalE T _ [some (.d, .tuple R), some (.l .d, .list (ofInts w)), some (.d, .tuple (ofInts cs)), some (.d, .bool true), some (.d, .int c), some (.d, .list (ofInts (deepOf R cs)))] = PL.R.ok (_, [some (.d, .tuple R), some (.l .d, .list (ofInts w)), some (.d, .tuple (ofInts cs)), some (.d, .bool true), some (.d, .int c), some (.d, .list (ofInts (deepOf R cs)))])
      simp -dsimp -implicitDefEqProofs only [ex_nil, ex_cons, then_nx, then_rt, then_ct, then_bk, ex_asg, ex_asgT, ex_par, ex_ret, ex_retMv, ex_ite, ex_brk, ex_cont, ev_var, ev_int, ev_bl, ev_non, ev_str, ev_dct, ev_tup, ev_lst, ev_op, ev_call, ev_and, ev_or, ev_not, ev_ifx, evs_nil, evs_cons, esv_nil, esv_cons, eas_nil, eas_var, eas_op, eas_int, eas_bl, eas_non, eas_str, eas_tup, eas_lst, eas_dct, eas_call, eas_and, eas_or, eas_not, eas_ifx, eas_comp, eas_slc, ex_put, putIn_l, ixN0, ixN1, fill_nil, fill_inl, fill_inr, asB_ok, bnd_ok, bnd_no, iff_t, iff_f, op_add, op_sub, op_neg, op_mul, op_fdiv, op_mod, op_gt, op_ge, op_lt, op_le, op_int, op_abs, op_min2, op_max2, op_lenL, op_lenS, op_lenD, op_lenT, op_tupL, op_tupD, op_ixL, op_ixD, op_ixS, op_ixT, atI0, atI1, setS_in, readV_eq, readO_d, readO_l, get_eq, getO_some, ixO_some, putO_some, List.getElem?_cons_zero, List.getElem?_cons_succ, List.set_cons_zero, List.set_cons_succ, List.length_cons, List.length_nil, Nat.reduceAdd, Nat.reduceLT, ne_eq, not_false_eq_true, and_self, true_and, and_true, hat2]
    have hln : (decide (((ofInts (deepOf R cs)).length : Int) < ((ofInts cs).length : Int))) = decide ((deepOf R cs).length < cs.length) := by
      rw [ofInts_len, ofInts_len, decide_eq_decide]
      omega
    refine run_rt (ρ := [some (.d, .tuple R), some (.l .d, .list (ofInts w)), some (.d, .tuple (ofInts cs)), some (.d, .bool true), none, some (.d, .list (ofInts (deepOf R cs)))]) ⟨rfl, by decide, rfl⟩ ?_ rfl
    show execSs T p8_dice_of_children.body [some (.d, .tuple R), some (.l .d, .list (ofInts w)), some (.d, .tuple (ofInts cs)), some (.d, .bool true), none, none] = _
    unfold val
    rw [if_pos rfl]
    cases hb : decide ((deepOf R cs).length < cs.length) with
    | true =>
      rw [if_pos (of_decide_eq_true hb)]
      unfold p8_dice_of_children
      simp -dsimp -implicitDefEqProofs only [ex_nil, ex_cons, then_nx, then_rt, then_ct, then_bk, ex_asg, ex_asgT, ex_par, ex_ret, ex_retMv, ex_ite, ex_brk, ex_cont, ev_var, ev_int, ev_bl, ev_non, ev_str, ev_dct, ev_tup, ev_lst, ev_op, ev_call, ev_and, ev_or, ev_not, ev_ifx, evs_nil, evs_cons, esv_nil, esv_cons, eas_nil, eas_var, eas_op, eas_int, eas_bl, eas_non, eas_str, eas_tup, eas_lst, eas_dct, eas_call, eas_and, eas_or, eas_not, eas_ifx, eas_comp, eas_slc, ex_put, putIn_l, ixN0, ixN1, fill_nil, fill_inl, fill_inr, asB_ok, bnd_ok, bnd_no, iff_t, iff_f, op_add, op_sub, op_neg, op_mul, op_fdiv, op_mod, op_gt, op_ge, op_lt, op_le, op_int, op_abs, op_min2, op_max2, op_lenL, op_lenS, op_lenD, op_lenT, op_tupL, op_tupD, op_ixL, op_ixD, op_ixS, op_ixT, atI0, atI1, setS_in, readV_eq, readO_d, readO_l, get_eq, getO_some, ixO_some, putO_some, List.getElem?_cons_zero, List.getElem?_cons_succ, List.set_cons_zero, List.set_cons_succ, List.length_cons, List.length_nil, Nat.reduceAdd, Nat.reduceLT, ne_eq, not_false_eq_true, and_self, true_and, and_true, Bool.not_true, C1, C2, op_sumI, hln, hb]
    | false =>
      rw [if_neg (of_decide_eq_false hb)]
      unfold p8_dice_of_children
      simp -dsimp -implicitDefEqProofs only [ex_nil, ex_cons, then_nx, then_rt, then_ct, then_bk, ex_asg, ex_asgT, ex_par, ex_ret, ex_retMv, ex_ite, ex_brk, ex_cont, ev_var, ev_int, ev_bl, ev_non, ev_str, ev_dct, ev_tup, ev_lst, ev_op, ev_call, ev_and, ev_or, ev_not, ev_ifx, evs_nil, evs_cons, esv_nil, esv_cons, eas_nil, eas_var, eas_op, eas_int, eas_bl, eas_non, eas_str, eas_tup, eas_lst, eas_dct, eas_call, eas_and, eas_or, eas_not, eas_ifx, eas_comp, eas_slc, ex_put, putIn_l, ixN0, ixN1, fill_nil, fill_inl, fill_inr, asB_ok, bnd_ok, bnd_no, iff_t, iff_f, op_add, op_sub, op_neg, op_mul, op_fdiv, op_mod, op_gt, op_ge, op_lt, op_le, op_int, op_abs, op_min2, op_max2, op_lenL, op_lenS, op_lenD, op_lenT, op_tupL, op_tupD, op_ixL, op_ixD, op_ixS, op_ixT, atI0, atI1, setS_in, readV_eq, readO_d, readO_l, get_eq, getO_some, ixO_some, putO_some, List.getElem?_cons_zero, List.getElem?_cons_succ, List.set_cons_zero, List.set_cons_succ, List.length_cons, List.length_nil, Nat.reduceAdd, Nat.reduceLT, ne_eq, not_false_eq_true, and_self, true_and, and_true, Bool.not_true, C1, C2, op_sumI, hln, hb]
def DocOk (T : Tbl) : Prop := ∀ (R : List D) (N : Nat), RowsIn R N → ∀ (w cs : List Int), w.length = N → cs ≠ [] → (∀ c ∈ cs, 0 ≤ c ∧ c < N) → ∀ q, T.f 8 [(.d, .tuple R), (.l .d, .list (ofInts w)), (.d, .tuple (ofInts cs)), (.d, .bool q)] = .ok ((.d, .int (val q R w cs)), [(.d, .tuple R), (.l .d, .list (ofInts w)), (.d, .tuple (ofInts cs)), (.d, .bool q)])
def WantedOk (T : Tbl) : Prop := ∀ (b : Nat) (ts : List (List Int)) (h : Int) (t : List Int), T.f 6 [(.d, cond b ts), (.d, .int h), (.d, .tuple (ofInts t))] = .ok ((.d, .bool (wants ts h t)), [(.d, cond b ts), (.d, .int h), (.d, .tuple (ofInts t))])
def drB : List PS := [.asg (.tup [.var 6, .var 7, .var 8]) (.op .ix [.var 2, .var 5]), .ite (.op .gt [.op .len [.var 8], .int 0]) [.put 3 (.var 5) (.call 8 [.var 2, .var 3, .var 8, .call 6 [.var 0, .var 1, .var 6]])] []]
def drS (b : Nat) (ts : List (List Int)) (R : List D) (h : Int) (w : List Int) (r : Env) : Prop := ∃ x5 x6 x7 x8, r = [some (.d, cond b ts), some (.d, .int h), some (.d, .tuple R), some (.l .d, .list (ofInts w)), none, x5, x6, x7, x8]
theorem dr_step (T : Tbl) (hdo : DocOk T) (hwa : WantedOk T) (b : Nat) (ts : List (List Int)) (R : List D) (N : Nat) (hR : RowsIn R N) (h : Int) (w : List Int) (r : Env) (i : Nat) (ii : Int) (hi : ii = i) (hN : i < N) (hw : w.length = N) (hs : drS b ts R h w r) :
    ∃ r', (bindT (.var 5) (.int ii) r).bnd (fun r1 => execSs T drB r1) = .ok (.nx r') ∧ drS b ts R h (upd (wants ts h) R w i) r' ∧ (upd (wants ts h) R w i).length = N := by
  obtain ⟨x5, x6, x7, x8, rfl⟩ := hs
  rw [upd_len]
  obtain ⟨p, hat, hin⟩ := row_at hR (c := ii) (by omega) (by omega)
  unfold upd
  rw [← hi]
  generalize chOf R ii = cs at hat hin ⊢
  generalize lotOf R ii = l at hat ⊢
  have hx : ixN (ofInts w).length ii = some i := ixN_nat hi (by rw [ofInts_len]; omega)
  unfold row at hat
  have e0 : decide ((0 : Int) < ((ofInts cs).length : Int)) = !decide (cs = []) := by
    rw [ofInts_len]
    cases cs with
    | nil => rfl
    | cons a as => exact decide_eq_true (by rw [List.length_cons]; omega)
  by_cases hc : cs = []
  · rw [if_pos hc]
    have hd := decide_eq_true hc
    refine ⟨[some (.d, cond b ts), some (.d, .int h), some (.d, .tuple R), some (.l .d, .list (ofInts w)), none, some (.d, .int ii), some (.d, .tuple (ofInts l)), some (.d, p), some (.d, .tuple (ofInts cs))], ?_, ⟨_, _, _, _, rfl⟩, hw⟩
    show execSs T drB [some (.d, cond b ts), some (.d, .int h), some (.d, .tuple R), some (.l .d, .list (ofInts w)), none, some (.d, .int ii), x6, x7, x8] = _
    unfold drB
    simp -dsimp -implicitDefEqProofs only [ex_nil, ex_cons, then_nx, then_rt, then_ct, then_bk, ex_asg, ex_asgT, ex_par, ex_ret, ex_retMv, ex_ite, ex_brk, ex_cont, ev_var, ev_int, ev_bl, ev_non, ev_str, ev_dct, ev_tup, ev_lst, ev_op, ev_call, ev_and, ev_or, ev_not, ev_ifx, evs_nil, evs_cons, esv_nil, esv_cons, eas_nil, eas_var, eas_op, eas_int, eas_bl, eas_non, eas_str, eas_tup, eas_lst, eas_dct, eas_call, eas_and, eas_or, eas_not, eas_ifx, eas_comp, eas_slc, ex_put, putIn_l, ixN0, ixN1, fill_nil, fill_inl, fill_inr, asB_ok, bnd_ok, bnd_no, iff_t, iff_f, op_add, op_sub, op_neg, op_mul, op_fdiv, op_mod, op_gt, op_ge, op_lt, op_le, op_int, op_abs, op_min2, op_max2, op_lenL, op_lenS, op_lenD, op_lenT, op_tupL, op_tupD, op_ixL, op_ixD, op_ixS, op_ixT, atI0, atI1, setS_in, readV_eq, readO_d, readO_l, get_eq, getO_some, ixO_some, putO_some, List.getElem?_cons_zero, List.getElem?_cons_succ, List.set_cons_zero, List.set_cons_succ, List.length_cons, List.length_nil, Nat.reduceAdd, Nat.reduceLT, ne_eq, not_false_eq_true, and_self, true_and, and_true, hat, bindT_tup, bindTs_cons, bindTs_nil, bindT_var, e0, hd, Bool.not_true]
  · rw [if_neg hc]
    have hd := decide_eq_false hc
    have hwa := hwa b ts h l
    have hdo := hdo R N hR w cs hw hc hin (wants ts h l)
    refine ⟨[some (.d, cond b ts), some (.d, .int h), some (.d, .tuple R), some (.l .d, .list (ofInts (w.set i (val (wants ts h l) R w cs)))), none, some (.d, .int ii), some (.d, .tuple (ofInts l)), some (.d, p), some (.d, .tuple (ofInts cs))], ?_, ⟨_, _, _, _, rfl⟩, hw⟩
    show execSs T drB [some (.d, cond b ts), some (.d, .int h), some (.d, .tuple R), some (.l .d, .list (ofInts w)), none, some (.d, .int ii), x6, x7, x8] = _
    unfold drB
    simp -dsimp -implicitDefEqProofs only [ex_nil, ex_cons, then_nx, then_rt, then_ct, then_bk, ex_asg, ex_asgT, ex_par, ex_ret, ex_retMv, ex_ite, ex_brk, ex_cont, ev_var, ev_int, ev_bl, ev_non, ev_str, ev_dct, ev_tup, ev_lst, ev_op, ev_call, ev_and, ev_or, ev_not, ev_ifx, evs_nil, evs_cons, esv_nil, esv_cons, eas_nil, eas_var, eas_op, eas_int, eas_bl, eas_non, eas_str, eas_tup, eas_lst, eas_dct, eas_call, eas_and, eas_or, eas_not, eas_ifx, eas_comp, eas_slc, ex_put, putIn_l, ixN0, ixN1, fill_nil, fill_inl, fill_inr, asB_ok, bnd_ok, bnd_no, iff_t, iff_f, op_add, op_sub, op_neg, op_mul, op_fdiv, op_mod, op_gt, op_ge, op_lt, op_le, op_int, op_abs, op_min2, op_max2, op_lenL, op_lenS, op_lenD, op_lenT, op_tupL, op_tupD, op_ixL, op_ixD, op_ixS, op_ixT, atI0, atI1, setS_in, readV_eq, readO_d, readO_l, get_eq, getO_some, ixO_some, putO_some, List.getElem?_cons_zero, List.getElem?_cons_succ, List.set_cons_zero, List.set_cons_succ, List.length_cons, List.length_nil, Nat.reduceAdd, Nat.reduceLT, ne_eq, not_false_eq_true, and_self, true_and, and_true, hat, bindT_tup, bindTs_cons, bindTs_nil, bindT_var, e0, hd, Bool.not_false, own_d, own_l, own_r, own_n, nd_nil, nd_one, pb_d, pb_l, pb_r, pb_n, noS_d, hwa, hdo, hx, ofInts_set]
def SplitOk (T : Tbl) : Prop := ∀ (b : Nat), 1 ≤ b → b ≤ 5 → ∀ (ts : List (List Int)) (N : Nat), N ≤ 200 → (∀ j < N, j < (qs (kids b ts) (upto b) j).length) → (qs (kids b ts) (upto b) N).length = N → T.f 48 [(.d, cond b ts)] = .ok ((.d, .tuple (told (kids b ts) (upto b) N)), [(.d, cond b ts)])
theorem drows_run (T : Tbl) (hdo : DocOk T) (hwa : WantedOk T) (b : Nat) (ts : List (List Int)) (R : List D) (N : Nat) (hs : T.f 48 [(.d, cond b ts)] = .ok ((.d, .tuple R), [(.d, cond b ts)])) (hR : RowsIn R N) (hN : N ≤ 2000) (h : Int) : runDef T p49_dice_rows [(.d, cond b ts), (.d, .int h)] = .ok ((.d, .tuple (ofInts (diceW (wants ts h) R N))), [(.d, cond b ts), (.d, .int h)]) := by
  obtain ⟨r', e, ⟨x5, x6, x7, x8, rfl⟩, _⟩ := desc_loop (turn := fun x r => (bindT (.var 5) x r).bnd fun r1 => execSs T drB r1) (N := N) (f := upd (wants ts h) R) (S := drS b ts R h) (fun w r i ii hi hN hw hs => dr_step T hdo hwa b ts R N hR h w r i ii hi hN hw hs) N (List.replicate N 1) [some (.d, cond b ts), some (.d, .int h), some (.d, .tuple R), some (.l .d, .list (ofInts (List.replicate N 1))), none, none, none, none, none] (Nat.le_refl _) (List.length_replicate ..) ⟨_, _, _, _, rfl⟩
  obtain ⟨L, hL⟩ : ∃ L : Int, ((R.length : Nat) : Int) = L := ⟨_, rfl⟩
  have hLN : L = N := by rw [← hL, hR.1]
  have C : evalE T (.comp (.int 1) [4] (.var 4) (.e (.var 2)) (.bl true)) [some (.d, cond b ts), some (.d, .int h), some (.d, .tuple R), none, none, none, none, none, none] = .ok ((.l .d, .list (ofInts (List.replicate N 1))), [some (.d, cond b ts), some (.d, .int h), some (.d, .tuple R), none, none, none, none, none, none]) := by
    refine (comp_pure (p := fun _ => true) (items := R) (g := fun _ => .int 1) rfl rfl rfl (by show 4 < 9; decide) (fun _ _ => rfl) fun _ _ _ => ⟨.d, rfl⟩).trans ?_
    rw [List.filter_eq_self.mpr fun _ _ => rfl, List.map_const', hR.1, replicate_ints]
  have I : evalI T (.range3 (.op .sub [.op .len [.var 2], .int 1]) (.op .neg [.int 1]) (.op .neg [.int 1])) [some (.d, cond b ts), some (.d, .int h), some (.d, .tuple R), some (.l .d, .list (ofInts (List.replicate N 1))), none, none, none, none, none] = .ok ((List.range' (N - N) N).map fun (i : Nat) => PyData.int ((N : Int) - 1 + (i : Int) * -1), [some (.d, cond b ts), some (.d, .int h), some (.d, .tuple R), some (.l .d, .list (ofInts (List.replicate N 1))), none, none, none, none, none]) := by
    rw [← rangeN_down (m := L - 1) (by omega)]
    refine ei_range3_ok (k1 := .d) (k2 := .d) (k3 := .d) (n := -1) (s := -1) (by simp -dsimp -implicitDefEqProofs only [ex_nil, ex_cons, then_nx, then_rt, then_ct, then_bk, ex_asg, ex_asgT, ex_par, ex_ret, ex_retMv, ex_ite, ex_brk, ex_cont, ev_var, ev_int, ev_bl, ev_non, ev_str, ev_dct, ev_tup, ev_lst, ev_op, ev_call, ev_and, ev_or, ev_not, ev_ifx, evs_nil, evs_cons, esv_nil, esv_cons, eas_nil, eas_var, eas_op, eas_int, eas_bl, eas_non, eas_str, eas_tup, eas_lst, eas_dct, eas_call, eas_and, eas_or, eas_not, eas_ifx, eas_comp, eas_slc, ex_put, putIn_l, ixN0, ixN1, fill_nil, fill_inl, fill_inr, asB_ok, bnd_ok, bnd_no, iff_t, iff_f, op_add, op_sub, op_neg, op_mul, op_fdiv, op_mod, op_gt, op_ge, op_lt, op_le, op_int, op_abs, op_min2, op_max2, op_lenL, op_lenS, op_lenD, op_lenT, op_tupL, op_tupD, op_ixL, op_ixD, op_ixS, op_ixT, atI0, atI1, setS_in, readV_eq, readO_d, readO_l, get_eq, getO_some, ixO_some, putO_some, List.getElem?_cons_zero, List.getElem?_cons_succ, List.set_cons_zero, List.set_cons_succ, List.length_cons, List.length_nil, Nat.reduceAdd, Nat.reduceLT, ne_eq, not_false_eq_true, and_self, true_and, and_true, hL]) rfl rfl ?_
    have s1 : small (L - 1) = true := by
      unfold small
      rw [decide_eq_true (by omega), decide_eq_true (by omega)]
      rfl
    rw [s1]
    decide
  have F : execS T (.for_ (.var 5) (.range3 (.op .sub [.op .len [.var 2], .int 1]) (.op .neg [.int 1]) (.op .neg [.int 1])) drB) [some (.d, cond b ts), some (.d, .int h), some (.d, .tuple R), some (.l .d, .list (ofInts (List.replicate N 1))), none, none, none, none, none] = .ok (.nx [some (.d, cond b ts), some (.d, .int h), some (.d, .tuple R), some (.l .d, .list (ofInts (diceW (wants ts h) R N))), none, x5, x6, x7, x8]) := by
    rw [ex_for, I, bnd_ok]
    exact e
  refine run_rt (ρ := [some (.d, cond b ts), some (.d, .int h), some (.d, .tuple R), some (.l .d, .list (ofInts (diceW (wants ts h) R N))), none, x5, x6, x7, x8]) ⟨rfl, by decide, rfl⟩ ?_ rfl
  show execSs T [.asg (.var 2) (.call 48 [.var 0]), .asg (.var 3) (.comp (.int 1) [4] (.var 4) (.e (.var 2)) (.bl true)), .for_ (.var 5) (.range3 (.op .sub [.op .len [.var 2], .int 1]) (.op .neg [.int 1]) (.op .neg [.int 1])) drB, .ret (.op .tuple [.var 3])] [some (.d, cond b ts), some (.d, .int h), none, none, none, none, none, none, none] = _
  simp -dsimp -implicitDefEqProofs only [ex_nil, ex_cons, then_nx, then_rt, then_ct, then_bk, ex_asg, ex_asgT, ex_par, ex_ret, ex_retMv, ex_ite, ex_brk, ex_cont, ev_var, ev_int, ev_bl, ev_non, ev_str, ev_dct, ev_tup, ev_lst, ev_op, ev_call, ev_and, ev_or, ev_not, ev_ifx, evs_nil, evs_cons, esv_nil, esv_cons, eas_nil, eas_var, eas_op, eas_int, eas_bl, eas_non, eas_str, eas_tup, eas_lst, eas_dct, eas_call, eas_and, eas_or, eas_not, eas_ifx, eas_comp, eas_slc, ex_put, putIn_l, ixN0, ixN1, fill_nil, fill_inl, fill_inr, asB_ok, bnd_ok, bnd_no, iff_t, iff_f, op_add, op_sub, op_neg, op_mul, op_fdiv, op_mod, op_gt, op_ge, op_lt, op_le, op_int, op_abs, op_min2, op_max2, op_lenL, op_lenS, op_lenD, op_lenT, op_tupL, op_tupD, op_ixL, op_ixD, op_ixS, op_ixT, atI0, atI1, setS_in, readV_eq, readO_d, readO_l, get_eq, getO_some, ixO_some, putO_some, List.getElem?_cons_zero, List.getElem?_cons_succ, List.set_cons_zero, List.set_cons_succ, List.length_cons, List.length_nil, Nat.reduceAdd, Nat.reduceLT, ne_eq, not_false_eq_true, and_self, true_and, and_true, own_d, own_n, nd_nil, pb_d, pb_n, noS_d, hs, C, F]
theorem dmin_run (T : Tbl) (b : Nat) (ts : List (List Int)) (h : Int) (w : List Int) (hw : w ≠ []) (hs : T.f 49 [(.d, cond b ts), (.d, .int h)] = .ok ((.d, .tuple (ofInts w)), [(.d, cond b ts), (.d, .int h)])) : runDef T p50_dice_minds [(.d, cond b ts), (.d, .int h)] = .ok ((.d, .int (wAt w 0)), [(.d, cond b ts), (.d, .int h)]) := by
  have hat : atI (ofInts w) 0 = some (.int (wAt w 0)) := w_at (N := w.length) rfl (Int.le_refl 0) (by have := List.length_pos_iff.mpr hw; omega)
  refine run_rt (ρ := [some (.d, cond b ts), some (.d, .int h)]) ⟨rfl, by decide, rfl⟩ ?_ rfl
  show execSs T p50_dice_minds.body [some (.d, cond b ts), some (.d, .int h)] = _
  unfold p50_dice_minds
  simp -dsimp -implicitDefEqProofs only [ex_nil, ex_cons, then_nx, then_rt, then_ct, then_bk, ex_asg, ex_asgT, ex_par, ex_ret, ex_retMv, ex_ite, ex_brk, ex_cont, ev_var, ev_int, ev_bl, ev_non, ev_str, ev_dct, ev_tup, ev_lst, ev_op, ev_call, ev_and, ev_or, ev_not, ev_ifx, evs_nil, evs_cons, esv_nil, esv_cons, eas_nil, eas_var, eas_op, eas_int, eas_bl, eas_non, eas_str, eas_tup, eas_lst, eas_dct, eas_call, eas_and, eas_or, eas_not, eas_ifx, eas_comp, eas_slc, ex_put, putIn_l, ixN0, ixN1, fill_nil, fill_inl, fill_inr, asB_ok, bnd_ok, bnd_no, iff_t, iff_f, op_add, op_sub, op_neg, op_mul, op_fdiv, op_mod, op_gt, op_ge, op_lt, op_le, op_int, op_abs, op_min2, op_max2, op_lenL, op_lenS, op_lenD, op_lenT, op_tupL, op_tupD, op_ixL, op_ixD, op_ixS, op_ixT, atI0, atI1, setS_in, readV_eq, readO_d, readO_l, get_eq, getO_some, ixO_some, putO_some, List.getElem?_cons_zero, List.getElem?_cons_succ, List.set_cons_zero, List.set_cons_succ, List.length_cons, List.length_nil, Nat.reduceAdd, Nat.reduceLT, ne_eq, not_false_eq_true, and_self, true_and, and_true, own_d, own_n, nd_nil, pb_d, pb_n, noS_d, hs, hat]
/-! ### the rows of the tree -/
theorem told_rows (F : List Int → List (List Int)) (t0 : List Int) : ∀ k, (∀ j < k, j < (qs F t0 j).length) → ∀ i < k, ∃ l p ch, (told F t0 k)[i]? = some (row l p ch) ∧ ∀ c ∈ ch, 0 ≤ c ∧ c < (qs F t0 k).length
  | 0, _, i, hi => absurd hi (Nat.not_lt_zero i)
  | k + 1, hj, i, hi => by
    have hk' := hj k (Nat.lt_succ_self k)
    obtain ⟨p, hp⟩ : ∃ p, (qs F t0 k)[k]? = some p := ⟨_, List.getElem?_eq_getElem hk'⟩
    have hlen : (qs F t0 (k + 1)).length = (qs F t0 k).length + (F p.1).length := by
      show (qs F t0 k ++ news F (qs F t0 k) k).length = _
      rw [List.length_append, news_eq hp, List.length_map]
    rw [told_succ F t0 hp, hlen]
    have tl := told_len F t0 (Nat.le_of_lt hk')
    rcases Nat.lt_or_ge i k with h | h
    · obtain ⟨l, p, ch, e, hin⟩ := told_rows F t0 k (fun j hj' => hj j (by omega)) i h
      refine ⟨l, p, ch, by rw [List.getElem?_append_left (by omega)]; exact e, fun c hc => ?_⟩
      obtain ⟨a, b⟩ := hin c hc
      exact ⟨a, by omega⟩
    · have : i = k := by omega
      subst this
      refine ⟨p.1, p.2, (List.range ((((qs F t0 i).length + (F p.1).length : Nat) : Int) - ((qs F t0 i).length : Int)).toNat).map fun (j : Nat) => ((qs F t0 i).length : Int) + (j : Int), ?_, fun c hc => ?_⟩
      · rw [List.getElem?_append_right (by omega), tl, Nat.sub_self]
        unfold row rangeUp ofInts
        rw [List.map_map]
        rfl
      · obtain ⟨j, hj2, rfl⟩ := List.mem_map.mp hc
        have := List.mem_range.mp hj2
        omega
theorem told_in (F : List Int → List (List Int)) (t0 : List Int) (N : Nat) (hj : ∀ j < N, j < (qs F t0 j).length) (hq : (qs F t0 N).length = N) : RowsIn (told F t0 N) N := by
  refine ⟨told_len F t0 (Nat.le_of_eq hq.symm), fun i hi => ?_⟩
  obtain ⟨l, p, ch, e, hin⟩ := told_rows F t0 N hj i hi
  rw [hq] at hin
  exact ⟨l, p, ch, e, hin⟩
end K02
end PL
end

section
set_option Elab.async false
set_option linter.all false
set_option maxRecDepth 100000
set_option autoImplicit false
/-! PL02m: the law. -/
namespace PL
open PySem
theorem for_inv2 {turn : D → Env → R Out} {Inv : List D → Env → Prop} (step : ∀ x xs r, Inv (x :: xs) r → ∃ r', (turn x r = .ok (.nx r') ∨ turn x r = .ok (.ct r')) ∧ Inv xs r') (items : List D) (r : Env) (h : Inv items r) : ∃ r', forLoop turn items r = .ok (.nx r') ∧ Inv [] r' := by
  obtain ⟨o, e, h2⟩ := for_gen (turn := turn) (Inv := Inv) (Post := fun o => ∃ r', o = .nx r' ∧ Inv [] r') (fun x xs r h => by
    obtain ⟨r', e, h'⟩ := step x xs r h
    exact .inl ⟨r', e, h'⟩) (fun r h => ⟨r, rfl, h⟩) items r h
  obtain ⟨r', rfl, h2⟩ := h2
  exact ⟨r', e, h2⟩
namespace K02
def SameT (T : Tbl) : Prop := ∀ a : List Int, T.f 14 [(.d, .tuple (ofInts a)), (.d, .tuple (ofInts a))] = .ok ((.d, .bool true), [(.d, .tuple (ofInts a)), (.d, .tuple (ofInts a))])
def BoxOk (T : Tbl) : Prop := ∀ (ns : List Int) (k : Int), 0 ≤ k → ∃ g n, T.f 11 [(.s, .list (ofInts ns)), (.d, .int k)] = .ok (bx g n, [(.s, .list (ofInts ns)), (.d, .int k)])
def LdiceOk (T : Tbl) : Prop := ∀ (b : Nat) (ts : List (List Int)) (R : List D) (N : Nat), RowsIn R N → N ≤ 2000 → ∀ h : Int, T.f 24 [(.d, cond b ts), (.l .d, .list R), (.d, .int h)] = .ok ((.l .d, .list (ofInts (diceW (wants ts h) R N))), [(.d, cond b ts), (.l .d, .list R), (.d, .int h)])
/-- a tree that ends, of to 200 rows -/
def Ends (b : Nat) (ts : List (List Int)) (N : Nat) : Prop := 1 ≤ b ∧ b ≤ 5 ∧ N ≤ 200 ∧ (∀ j < N, j < (qs (kids b ts) (upto b) j).length) ∧ (qs (kids b ts) (upto b) N).length = N
def DrowsOk (T : Tbl) : Prop := ∀ (b : Nat) (ts : List (List Int)) (N : Nat), Ends b ts N → ∀ h : Int, T.f 49 [(.d, cond b ts), (.d, .int h)] = .ok ((.d, .tuple (ofInts (diceW (wants ts h) (told (kids b ts) (upto b) N) N))), [(.d, cond b ts), (.d, .int h)])
def DminOk (T : Tbl) : Prop := ∀ (b : Nat) (ts : List (List Int)) (N : Nat), Ends b ts N → ∀ h : Int, T.f 50 [(.d, cond b ts), (.d, .int h)] = .ok ((.d, .int (wAt (diceW (wants ts h) (told (kids b ts) (upto b) N) N) 0)), [(.d, cond b ts), (.d, .int h)])
def TreeOk (T : Tbl) : Prop := ∀ (b : Nat), 1 ≤ b → b ≤ 5 → ∀ (ts : List (List Int)), ∃ N, N ≤ 2000 ∧ (∀ j < N, j < (qs (kids b ts) (upto b) j).length) ∧ N ≤ (qs (kids b ts) (upto b) N).length ∧ ((qs (kids b ts) (upto b) N).length = N ∨ N = 2000) ∧ T.f 57 [(.d, cond b ts)] = .ok ((.l .d, .list (told (kids b ts) (upto b) N)), [(.d, cond b ts)])
theorem qs_pos (F : List Int → List (List Int)) (t0 : List Int) : ∀ k, 0 < (qs F t0 k).length
  | 0 => Nat.succ_pos _
  | k + 1 => by
    show 0 < (qs F t0 k ++ _).length
    rw [List.length_append]
    have := qs_pos F t0 k
    omega
def handB : List PS := [.asg (.var 6) (.call 24 [.var 3, .var 4, .var 5]), .ite (.or (.not (.call 14 [.call 49 [.var 3, .var 5], .op .tuple [.var 6]])) (.not (.call 14 [.call 50 [.var 3, .var 5], .op .ix [.var 6, .int 0]]))) [.ret (.bl false)] []]
theorem hand_turn (T : Tbl) (h1 : SameI T) (h2 : SameT T) (h3 : LdiceOk T) (h4 : DrowsOk T) (h5 : DminOk T) (b : Nat) (ts : List (List Int)) (N : Nat) (hE : Ends b ts N) (s x1 x2 x6 : Option SV) (h : Int) :
    ∃ y6, execSs T handB [s, x1, x2, some (.d, cond b ts), some (.l .d, .list (told (kids b ts) (upto b) N)), some (.d, .int h), x6] = .ok (.nx [s, x1, x2, some (.d, cond b ts), some (.l .d, .list (told (kids b ts) (upto b) N)), some (.d, .int h), y6]) := by
  have hin := told_in (kids b ts) (upto b) N hE.2.2.2.1 hE.2.2.2.2
  have e3 := h3 b ts _ N hin (by have := hE.2.2.1; omega) h
  have e4 := h4 b ts N hE h
  have e5 := h5 b ts N hE h
  have hpos := qs_pos (kids b ts) (upto b) N
  rw [hE.2.2.2.2] at hpos
  have hat : atI (ofInts (diceW (wants ts h) (told (kids b ts) (upto b) N) N)) 0 = some (.int (wAt (diceW (wants ts h) (told (kids b ts) (upto b) N) N) 0)) := w_at (N := N) (diceW_len _ _ _) (Int.le_refl 0) (by omega)
  generalize diceW (wants ts h) (told (kids b ts) (upto b) N) N = w at e3 e4 e5 hat
  have e2 := h2 w
  have e1 := h1 (wAt w 0)
  refine ⟨some (.l .d, .list (ofInts w)), ?_⟩
  unfold handB
  simp -dsimp -implicitDefEqProofs only [ex_nil, ex_cons, then_nx, then_rt, then_ct, then_bk, ex_asg, ex_asgT, ex_par, ex_ret, ex_retMv, ex_ite, ex_brk, ex_cont, ev_var, ev_int, ev_bl, ev_non, ev_str, ev_dct, ev_tup, ev_lst, ev_op, ev_call, ev_and, ev_or, ev_not, ev_ifx, evs_nil, evs_cons, esv_nil, esv_cons, eas_nil, eas_var, eas_op, eas_int, eas_bl, eas_non, eas_str, eas_tup, eas_lst, eas_dct, eas_call, eas_and, eas_or, eas_not, eas_ifx, eas_comp, eas_slc, ex_put, putIn_l, ixN0, ixN1, fill_nil, fill_inl, fill_inr, asB_ok, bnd_ok, bnd_no, iff_t, iff_f, op_add, op_sub, op_neg, op_mul, op_fdiv, op_mod, op_gt, op_ge, op_lt, op_le, op_int, op_abs, op_min2, op_max2, op_lenL, op_lenS, op_lenD, op_lenT, op_tupL, op_tupD, op_ixL, op_ixD, op_ixS, op_ixT, atI0, atI1, setS_in, readV_eq, readO_d, readO_l, get_eq, getO_some, ixO_some, putO_some, List.getElem?_cons_zero, List.getElem?_cons_succ, List.set_cons_zero, List.set_cons_succ, List.length_cons, List.length_nil, Nat.reduceAdd, Nat.reduceLT, ne_eq, not_false_eq_true, and_self, true_and, and_true, own_d, own_l, own_r, own_n, nd_nil, nd_one, pb_d, pb_l, pb_r, pb_n, noS_d, noS_l, e3, e4, e5, op_tupL, e2, hat, e1, Bool.not_true]
def condB : List PS := [.asg (.var 4) (.call 57 [.var 3]), .ite (.op .gt [.op .len [.var 4], .int 200]) [.cont] [], .for_ (.var 5) (.e (.tup [.int 0, .int 1])) handB]
theorem cond_turn (T : Tbl) (h1 : SameI T) (h2 : SameT T) (h3 : LdiceOk T) (h4 : DrowsOk T) (h5 : DminOk T) (ht : TreeOk T) (b : Nat) (b1 : 1 ≤ b) (b5 : b ≤ 5) (ts : List (List Int)) (s x1 x2 x4 x5 x6 : Option SV) :
    ∃ y3 y4 y5 y6, execSs T condB [s, x1, x2, some (.d, cond b ts), x4, x5, x6] = .ok (.nx [s, x1, x2, y3, y4, y5, y6]) ∨ execSs T condB [s, x1, x2, some (.d, cond b ts), x4, x5, x6] = .ok (.ct [s, x1, x2, y3, y4, y5, y6]) := by
  obtain ⟨N, r1, r2, r3, r4, e⟩ := ht b b1 b5 ts
  obtain ⟨L, hL⟩ : ∃ L : Int, (((told (kids b ts) (upto b) N).length : Nat) : Int) = L := ⟨_, rfl⟩
  have hLN : L = N := by rw [← hL, told_len _ _ r3]
  by_cases hN : 200 < L
  · have hd := decide_eq_true hN
    refine ⟨some (.d, cond b ts), some (.l .d, .list (told (kids b ts) (upto b) N)), x5, x6, .inr ?_⟩
    unfold condB
    simp -dsimp -implicitDefEqProofs only [ex_nil, ex_cons, then_nx, then_rt, then_ct, then_bk, ex_asg, ex_asgT, ex_par, ex_ret, ex_retMv, ex_ite, ex_brk, ex_cont, ev_var, ev_int, ev_bl, ev_non, ev_str, ev_dct, ev_tup, ev_lst, ev_op, ev_call, ev_and, ev_or, ev_not, ev_ifx, evs_nil, evs_cons, esv_nil, esv_cons, eas_nil, eas_var, eas_op, eas_int, eas_bl, eas_non, eas_str, eas_tup, eas_lst, eas_dct, eas_call, eas_and, eas_or, eas_not, eas_ifx, eas_comp, eas_slc, ex_put, putIn_l, ixN0, ixN1, fill_nil, fill_inl, fill_inr, asB_ok, bnd_ok, bnd_no, iff_t, iff_f, op_add, op_sub, op_neg, op_mul, op_fdiv, op_mod, op_gt, op_ge, op_lt, op_le, op_int, op_abs, op_min2, op_max2, op_lenL, op_lenS, op_lenD, op_lenT, op_tupL, op_tupD, op_ixL, op_ixD, op_ixS, op_ixT, atI0, atI1, setS_in, readV_eq, readO_d, readO_l, get_eq, getO_some, ixO_some, putO_some, List.getElem?_cons_zero, List.getElem?_cons_succ, List.set_cons_zero, List.set_cons_succ, List.length_cons, List.length_nil, Nat.reduceAdd, Nat.reduceLT, ne_eq, not_false_eq_true, and_self, true_and, and_true, own_d, own_n, nd_nil, pb_d, pb_n, noS_l, e, hL, hd]
  · have hd := decide_eq_false hN
    have hE : Ends b ts N := ⟨b1, b5, by omega, r2, by omega⟩
    obtain ⟨z1, t1⟩ := hand_turn T h1 h2 h3 h4 h5 b ts N hE s x1 x2 x6 0
    obtain ⟨z2, t2⟩ := hand_turn T h1 h2 h3 h4 h5 b ts N hE s x1 x2 z1 1
    have F : execS T (.for_ (.var 5) (.e (.tup [.int 0, .int 1])) handB) [s, x1, x2, some (.d, cond b ts), some (.l .d, .list (told (kids b ts) (upto b) N)), x5, x6] = .ok (.nx [s, x1, x2, some (.d, cond b ts), some (.l .d, .list (told (kids b ts) (upto b) N)), some (.d, .int 1), z2]) := by
      have g1 : (bindT (.var 5) (.int 0) [s, x1, x2, some (.d, cond b ts), some (.l .d, .list (told (kids b ts) (upto b) N)), x5, x6]).bnd (fun r1 => execSs T handB r1) = .ok (.nx [s, x1, x2, some (.d, cond b ts), some (.l .d, .list (told (kids b ts) (upto b) N)), some (.d, .int 0), z1]) := t1
      have g2 : (bindT (.var 5) (.int 1) [s, x1, x2, some (.d, cond b ts), some (.l .d, .list (told (kids b ts) (upto b) N)), some (.d, .int 0), z1]).bnd (fun r1 => execSs T handB r1) = .ok (.nx [s, x1, x2, some (.d, cond b ts), some (.l .d, .list (told (kids b ts) (upto b) N)), some (.d, .int 1), z2]) := t2
      have I : evalI T (.e (.tup [.int 0, .int 1])) [s, x1, x2, some (.d, cond b ts), some (.l .d, .list (told (kids b ts) (upto b) N)), x5, x6] = .ok ([.int 0, .int 1], [s, x1, x2, some (.d, cond b ts), some (.l .d, .list (told (kids b ts) (upto b) N)), x5, x6]) := rfl
      rw [ex_for, I, bnd_ok]
      exact (for_nx g1).trans ((for_nx g2).trans rfl)
    refine ⟨some (.d, cond b ts), some (.l .d, .list (told (kids b ts) (upto b) N)), some (.d, .int 1), z2, .inl ?_⟩
    unfold condB
    simp -dsimp -implicitDefEqProofs only [ex_nil, ex_cons, then_nx, then_rt, then_ct, then_bk, ex_asg, ex_asgT, ex_par, ex_ret, ex_retMv, ex_ite, ex_brk, ex_cont, ev_var, ev_int, ev_bl, ev_non, ev_str, ev_dct, ev_tup, ev_lst, ev_op, ev_call, ev_and, ev_or, ev_not, ev_ifx, evs_nil, evs_cons, esv_nil, esv_cons, eas_nil, eas_var, eas_op, eas_int, eas_bl, eas_non, eas_str, eas_tup, eas_lst, eas_dct, eas_call, eas_and, eas_or, eas_not, eas_ifx, eas_comp, eas_slc, ex_put, putIn_l, ixN0, ixN1, fill_nil, fill_inl, fill_inr, asB_ok, bnd_ok, bnd_no, iff_t, iff_f, op_add, op_sub, op_neg, op_mul, op_fdiv, op_mod, op_gt, op_ge, op_lt, op_le, op_int, op_abs, op_min2, op_max2, op_lenL, op_lenS, op_lenD, op_lenT, op_tupL, op_tupD, op_ixL, op_ixD, op_ixS, op_ixT, atI0, atI1, setS_in, readV_eq, readO_d, readO_l, get_eq, getO_some, ixO_some, putO_some, List.getElem?_cons_zero, List.getElem?_cons_succ, List.set_cons_zero, List.set_cons_succ, List.length_cons, List.length_nil, Nat.reduceAdd, Nat.reduceLT, ne_eq, not_false_eq_true, and_self, true_and, and_true, own_d, own_n, nd_nil, pb_d, pb_n, noS_l, e, hL, hd, F]
def lawB : List PS := [.asg (.var 2) (.call 11 [.var 0, .var 1]), .for_ (.var 3) (.e (.lst [.call 55 [.var 2, .ifx (.op .eq [.var 1, .int 0]) (.int 5) (.int 4)], .call 55 [.var 2, .int 3]])) condB]
theorem law_turn (T : Tbl) (h1 : SameI T) (h2 : SameT T) (h3 : LdiceOk T) (h4 : DrowsOk T) (h5 : DminOk T) (ht : TreeOk T) (hb : BoxOk T) (hc : ConditionOk T) (ns : List Int) (k : Int) (hk : 0 ≤ k) (x2 x3 x4 x5 x6 : Option SV) :
    ∃ y2 y3 y4 y5 y6, execSs T lawB [some (.s, .list (ofInts ns)), some (.d, .int k), x2, x3, x4, x5, x6] = .ok (.nx [some (.s, .list (ofInts ns)), some (.d, .int k), y2, y3, y4, y5, y6]) := by
  obtain ⟨g, n, e0⟩ := hb ns k hk
  obtain ⟨m, hm, m3, m5⟩ : ∃ m : Int, ((decide (k = 0) = true ∧ m = 5) ∨ (decide (k = 0) = false ∧ m = 4)) ∧ 3 ≤ m ∧ m ≤ 5 := by
    by_cases h : k = 0
    · exact ⟨5, .inl ⟨decide_eq_true h, rfl⟩, by decide, by decide⟩
    · exact ⟨4, .inr ⟨decide_eq_false h, rfl⟩, by decide, by decide⟩
  obtain ⟨b1, us1, g1, n1, p1, p5, e1⟩ := hc g n m m3 m5
  obtain ⟨b2, us2, g2, n2, q1, q5, e2⟩ := hc g1 n1 3 (by decide) (by decide)
  obtain ⟨r', e, ⟨_, y3, y4, y5, y6, rfl⟩⟩ := for_inv2 (turn := fun x r => (bindT (.var 3) x r).bnd fun r1 => execSs T condB r1) (Inv := fun xs r => (∀ x ∈ xs, ∃ b us, 1 ≤ b ∧ b ≤ 5 ∧ x = cond b us) ∧ ∃ x3 x4 x5 x6, r = [some (.s, .list (ofInts ns)), some (.d, .int k), some (bx g2 n2), x3, x4, x5, x6]) (fun x xs r h => by
    obtain ⟨hx, x3, x4, x5, x6, rfl⟩ := h
    obtain ⟨b, us, c1, c5, rfl⟩ := hx x List.mem_cons_self
    obtain ⟨y3, y4, y5, y6, e⟩ := cond_turn T h1 h2 h3 h4 h5 ht b c1 c5 us (some (.s, .list (ofInts ns))) (some (.d, .int k)) (some (bx g2 n2)) x4 x5 x6
    exact ⟨_, e, fun y hy => hx y (List.mem_cons_of_mem _ hy), y3, y4, y5, y6, rfl⟩) [cond b1 us1, cond b2 us2] [some (.s, .list (ofInts ns)), some (.d, .int k), some (bx g2 n2), x3, x4, x5, x6] ⟨(fun x hx => by
      rcases List.mem_cons.mp hx with rfl | hx
      · exact ⟨b1, us1, p1, p5, rfl⟩
      rcases List.mem_cons.mp hx with rfl | hx
      · exact ⟨b2, us2, q1, q5, rfl⟩
      cases hx), x3, x4, x5, x6, rfl⟩
  have L : evalI T (.e (.lst [.call 55 [.var 2, .ifx (.op .eq [.var 1, .int 0]) (.int 5) (.int 4)], .call 55 [.var 2, .int 3]])) [some (.s, .list (ofInts ns)), some (.d, .int k), some (bx g n), x3, x4, x5, x6] = .ok ([cond b1 us1, cond b2 us2], [some (.s, .list (ofInts ns)), some (.d, .int k), some (bx g2 n2), x3, x4, x5, x6]) := by
    rw [ei_e]
    unfold bx at *
    rcases hm with ⟨hd, rfl⟩ | ⟨hd, rfl⟩
    · simp -dsimp -implicitDefEqProofs only [ex_nil, ex_cons, then_nx, then_rt, then_ct, then_bk, ex_asg, ex_asgT, ex_par, ex_ret, ex_retMv, ex_ite, ex_brk, ex_cont, ev_var, ev_int, ev_bl, ev_non, ev_str, ev_dct, ev_tup, ev_lst, ev_op, ev_call, ev_and, ev_or, ev_not, ev_ifx, evs_nil, evs_cons, esv_nil, esv_cons, eas_nil, eas_var, eas_op, eas_int, eas_bl, eas_non, eas_str, eas_tup, eas_lst, eas_dct, eas_call, eas_and, eas_or, eas_not, eas_ifx, eas_comp, eas_slc, ex_put, putIn_l, ixN0, ixN1, fill_nil, fill_inl, fill_inr, asB_ok, bnd_ok, bnd_no, iff_t, iff_f, op_add, op_sub, op_neg, op_mul, op_fdiv, op_mod, op_gt, op_ge, op_lt, op_le, op_int, op_abs, op_min2, op_max2, op_lenL, op_lenS, op_lenD, op_lenT, op_tupL, op_tupD, op_ixL, op_ixD, op_ixS, op_ixT, atI0, atI1, setS_in, readV_eq, readO_d, readO_l, get_eq, getO_some, ixO_some, putO_some, List.getElem?_cons_zero, List.getElem?_cons_succ, List.set_cons_zero, List.set_cons_succ, List.length_cons, List.length_nil, Nat.reduceAdd, Nat.reduceLT, ne_eq, not_false_eq_true, and_self, true_and, and_true, own_l, own_r, own_n, nd_one, nd_nil, pb_l, pb_r, pb_n, noS_d, op_eqI, hd, e1, e2]
      rfl
    · simp -dsimp -implicitDefEqProofs only [ex_nil, ex_cons, then_nx, then_rt, then_ct, then_bk, ex_asg, ex_asgT, ex_par, ex_ret, ex_retMv, ex_ite, ex_brk, ex_cont, ev_var, ev_int, ev_bl, ev_non, ev_str, ev_dct, ev_tup, ev_lst, ev_op, ev_call, ev_and, ev_or, ev_not, ev_ifx, evs_nil, evs_cons, esv_nil, esv_cons, eas_nil, eas_var, eas_op, eas_int, eas_bl, eas_non, eas_str, eas_tup, eas_lst, eas_dct, eas_call, eas_and, eas_or, eas_not, eas_ifx, eas_comp, eas_slc, ex_put, putIn_l, ixN0, ixN1, fill_nil, fill_inl, fill_inr, asB_ok, bnd_ok, bnd_no, iff_t, iff_f, op_add, op_sub, op_neg, op_mul, op_fdiv, op_mod, op_gt, op_ge, op_lt, op_le, op_int, op_abs, op_min2, op_max2, op_lenL, op_lenS, op_lenD, op_lenT, op_tupL, op_tupD, op_ixL, op_ixD, op_ixS, op_ixT, atI0, atI1, setS_in, readV_eq, readO_d, readO_l, get_eq, getO_some, ixO_some, putO_some, List.getElem?_cons_zero, List.getElem?_cons_succ, List.set_cons_zero, List.set_cons_succ, List.length_cons, List.length_nil, Nat.reduceAdd, Nat.reduceLT, ne_eq, not_false_eq_true, and_self, true_and, and_true, own_l, own_r, own_n, nd_one, nd_nil, pb_l, pb_r, pb_n, noS_d, op_eqI, hd, e1, e2]
      rfl
  have F : execS T (.for_ (.var 3) (.e (.lst [.call 55 [.var 2, .ifx (.op .eq [.var 1, .int 0]) (.int 5) (.int 4)], .call 55 [.var 2, .int 3]])) condB) [some (.s, .list (ofInts ns)), some (.d, .int k), some (bx g n), x3, x4, x5, x6] = .ok (.nx [some (.s, .list (ofInts ns)), some (.d, .int k), some (bx g2 n2), y3, y4, y5, y6]) := by
    rw [ex_for, L, bnd_ok]
    exact e
  refine ⟨some (bx g2 n2), y3, y4, y5, y6, ?_⟩
  unfold lawB
  unfold bx at *
  simp -dsimp -implicitDefEqProofs only [ex_nil, ex_cons, then_nx, then_rt, then_ct, then_bk, ex_asg, ex_asgT, ex_par, ex_ret, ex_retMv, ex_ite, ex_brk, ex_cont, ev_var, ev_int, ev_bl, ev_non, ev_str, ev_dct, ev_tup, ev_lst, ev_op, ev_call, ev_and, ev_or, ev_not, ev_ifx, evs_nil, evs_cons, esv_nil, esv_cons, eas_nil, eas_var, eas_op, eas_int, eas_bl, eas_non, eas_str, eas_tup, eas_lst, eas_dct, eas_call, eas_and, eas_or, eas_not, eas_ifx, eas_comp, eas_slc, ex_put, putIn_l, ixN0, ixN1, fill_nil, fill_inl, fill_inr, asB_ok, bnd_ok, bnd_no, iff_t, iff_f, op_add, op_sub, op_neg, op_mul, op_fdiv, op_mod, op_gt, op_ge, op_lt, op_le, op_int, op_abs, op_min2, op_max2, op_lenL, op_lenS, op_lenD, op_lenT, op_tupL, op_tupD, op_ixL, op_ixD, op_ixS, op_ixT, atI0, atI1, setS_in, readV_eq, readO_d, readO_l, get_eq, getO_some, ixO_some, putO_some, List.getElem?_cons_zero, List.getElem?_cons_succ, List.set_cons_zero, List.set_cons_succ, List.length_cons, List.length_nil, Nat.reduceAdd, Nat.reduceLT, ne_eq, not_false_eq_true, and_self, true_and, and_true, own_s, own_d, own_n, nd_one, nd_nil, pb_s, pb_d, pb_n, noS_l, e0, F]
theorem law_run (T : Tbl) (h1 : SameI T) (h2 : SameT T) (h3 : LdiceOk T) (h4 : DrowsOk T) (h5 : DminOk T) (ht : TreeOk T) (hb : BoxOk T) (hc : ConditionOk T) (ns : List Int) : runDef T p58_law [(.s, .list (ofInts ns))] = .ok ((.d, .bool true), [(.s, .list (ofInts ns))]) := by
  obtain ⟨L, hL⟩ : ∃ L : Int, (((ofInts ns).length : Nat) : Int) = L := ⟨_, rfl⟩
  obtain ⟨m8, h8⟩ : ∃ m8 : Int, m8 = if 8 < L then 8 else L := ⟨_, rfl⟩
  obtain ⟨M, hM⟩ : ∃ M : Int, M = if m8 > 4 then m8 else 4 := ⟨_, rfl⟩
  have hl0 : 0 ≤ L := by rw [← hL]; omega
  have hM8 : 0 ≤ M ∧ M ≤ 8 := by
    rw [hM, h8]
    split <;> split <;> omega
  obtain ⟨r', e, ⟨_, y1, y2, y3, y4, y5, y6, rfl⟩⟩ := for_inv (turn := fun x r => (bindT (.var 1) x r).bnd fun r1 => execSs T lawB r1) (Inv := fun xs r => (∀ x ∈ xs, ∃ k : Int, 0 ≤ k ∧ x = .int k) ∧ ∃ x1 x2 x3 x4 x5 x6, r = [some (.s, .list (ofInts ns)), x1, x2, x3, x4, x5, x6]) (fun x xs r h => by
    obtain ⟨hx, x1, x2, x3, x4, x5, x6, rfl⟩ := h
    obtain ⟨k, hk, rfl⟩ := hx x List.mem_cons_self
    obtain ⟨y2, y3, y4, y5, y6, e⟩ := law_turn T h1 h2 h3 h4 h5 ht hb hc ns k hk x2 x3 x4 x5 x6
    exact ⟨_, e, fun y hy => hx y (List.mem_cons_of_mem _ hy), _, y2, y3, y4, y5, y6, rfl⟩) (rangeUp 0 M) [some (.s, .list (ofInts ns)), none, none, none, none, none, none] ⟨(fun x hx => by
      obtain ⟨i, _, rfl⟩ := List.mem_map.mp hx
      exact ⟨0 + (i : Int), by omega, rfl⟩), _, _, _, _, _, _, rfl⟩
  have F : execS T (.for_ (.var 1) (.range1 (.op .max2 [.int 4, .op .min2 [.op .len [.var 0], .int 8]])) lawB) [some (.s, .list (ofInts ns)), none, none, none, none, none, none] = .ok (.nx [some (.s, .list (ofInts ns)), y1, y2, y3, y4, y5, y6]) := by
    rw [ex_for, ei_range1_ok (k := .d) (n := M) (r := [some (.s, .list (ofInts ns)), none, none, none, none, none, none]) (by simp -dsimp -implicitDefEqProofs only [ex_nil, ex_cons, then_nx, then_rt, then_ct, then_bk, ex_asg, ex_asgT, ex_par, ex_ret, ex_retMv, ex_ite, ex_brk, ex_cont, ev_var, ev_int, ev_bl, ev_non, ev_str, ev_dct, ev_tup, ev_lst, ev_op, ev_call, ev_and, ev_or, ev_not, ev_ifx, evs_nil, evs_cons, esv_nil, esv_cons, eas_nil, eas_var, eas_op, eas_int, eas_bl, eas_non, eas_str, eas_tup, eas_lst, eas_dct, eas_call, eas_and, eas_or, eas_not, eas_ifx, eas_comp, eas_slc, ex_put, putIn_l, ixN0, ixN1, fill_nil, fill_inl, fill_inr, asB_ok, bnd_ok, bnd_no, iff_t, iff_f, op_add, op_sub, op_neg, op_mul, op_fdiv, op_mod, op_gt, op_ge, op_lt, op_le, op_int, op_abs, op_min2, op_max2, op_lenL, op_lenS, op_lenD, op_lenT, op_tupL, op_tupD, op_ixL, op_ixD, op_ixS, op_ixT, atI0, atI1, setS_in, readV_eq, readO_d, readO_l, get_eq, getO_some, ixO_some, putO_some, List.getElem?_cons_zero, List.getElem?_cons_succ, List.set_cons_zero, List.set_cons_succ, List.length_cons, List.length_nil, Nat.reduceAdd, Nat.reduceLT, ne_eq, not_false_eq_true, and_self, true_and, and_true, op_lenS, hL, ← h8, ← hM]) (small_int hM8.1 (by omega)), bnd_ok]
    exact e
  refine run_rt (ρ := [some (.s, .list (ofInts ns)), y1, y2, y3, y4, y5, y6]) ⟨rfl, by decide, rfl⟩ ?_ rfl
  show execSs T [.for_ (.var 1) (.range1 (.op .max2 [.int 4, .op .min2 [.op .len [.var 0], .int 8]])) lawB, .ret (.bl true)] [some (.s, .list (ofInts ns)), none, none, none, none, none, none] = _
  simp -dsimp -implicitDefEqProofs only [ex_nil, ex_cons, then_nx, then_rt, then_ct, then_bk, ex_asg, ex_asgT, ex_par, ex_ret, ex_retMv, ex_ite, ex_brk, ex_cont, ev_var, ev_int, ev_bl, ev_non, ev_str, ev_dct, ev_tup, ev_lst, ev_op, ev_call, ev_and, ev_or, ev_not, ev_ifx, evs_nil, evs_cons, esv_nil, esv_cons, eas_nil, eas_var, eas_op, eas_int, eas_bl, eas_non, eas_str, eas_tup, eas_lst, eas_dct, eas_call, eas_and, eas_or, eas_not, eas_ifx, eas_comp, eas_slc, ex_put, putIn_l, ixN0, ixN1, fill_nil, fill_inl, fill_inr, asB_ok, bnd_ok, bnd_no, iff_t, iff_f, op_add, op_sub, op_neg, op_mul, op_fdiv, op_mod, op_gt, op_ge, op_lt, op_le, op_int, op_abs, op_min2, op_max2, op_lenL, op_lenS, op_lenD, op_lenT, op_tupL, op_tupD, op_ixL, op_ixD, op_ixS, op_ixT, atI0, atI1, setS_in, readV_eq, readO_d, readO_l, get_eq, getO_some, ixO_some, putO_some, List.getElem?_cons_zero, List.getElem?_cons_succ, List.set_cons_zero, List.set_cons_succ, List.length_cons, List.length_nil, Nat.reduceAdd, Nat.reduceLT, ne_eq, not_false_eq_true, and_self, true_and, and_true, F]
/-! ### all of it -/
section
variable (wf : Nat)
theorem t_within (n : Nat) : WithinOk (tbl wf dfs (n + 1)) := fun a b => within_run (tbl wf dfs n) a b
theorem t_inside (n : Nat) : InsideOk (tbl wf dfs (n + 1)) := fun a b => inside_run (tbl wf dfs n) a b
theorem t_pleases (n : Nat) : PleasesOk (tbl wf dfs (n + 1)) := fun b ts t => pleases_run (tbl wf dfs n) b ts t
theorem t_lw (n : Nat) : LwOk (tbl wf dfs (n + 1)) := fun b t h1 h5 ht => lw_run (tbl wf dfs n) b h1 h5 t ht
theorem t_lots (n : Nat) : LotsOk (tbl wf dfs (n + 1)) := fun b h1 h5 => lots_run (tbl wf dfs n) b h1 h5
theorem t_take (n : Nat) : TakeOk (tbl wf dfs (n + 1)) := fun g m k h1 h2 => take_run (tbl wf dfs n) g m k h1 h2
theorem t_given (n : Nat) : GivenOk (tbl wf dfs (n + 1)) := fun t k hk => given_run (tbl wf dfs n) t k hk
theorem t_box (n : Nat) : BoxOk (tbl wf dfs (n + 1)) := fun ns k hk => box_run (tbl wf dfs n) ns k hk
theorem t_sameI (n : Nat) : SameI (tbl wf dfs (n + 1)) := fun a => sameI_run (tbl wf dfs n) a
theorem t_flat (n : Nat) : FlatOk (tbl wf dfs (n + 1)) := fun R N hR c h0 h1 => flat_run (tbl wf dfs n) R N hR c h0 h1
theorem t_ldice (n : Nat) : LdiceOk (tbl wf dfs (n + 1)) := fun b ts R N hR hN h => ldice_run (tbl wf dfs n) b ts R N hR hN h
theorem t_pick (n : Nat) : PickOk (tbl wf dfs (n + 2)) := fun g m xs h0 h1 => pick_run (tbl wf dfs (n + 1)) (t_take wf n) g m xs h0 h1
theorem t_sameT (n : Nat) : SameT (tbl wf dfs (n + 2)) := fun a => sameT_run (tbl wf dfs (n + 1)) (t_sameI wf n) a
theorem t_wanted (n : Nat) : WantedOk (tbl wf dfs (n + 2)) := fun b ts h t => wanted_run (tbl wf dfs (n + 1)) (t_pleases wf n) b ts h t
theorem t_other (n : Nat) : OtherOk (tbl wf dfs (n + 2)) := fun b h1 h5 ts => other_run (tbl wf dfs (n + 1)) (t_lots wf n) b h1 h5 ts
theorem t_by (n : Nat) : ByOk (tbl wf dfs (n + 2)) := fun b h1 h5 K w h => by_run (tbl wf dfs (n + 1)) (t_lots wf n) (t_given wf n) b h1 h5 K w h
theorem t_go (n : Nat) : GoOk (tbl wf dfs (n + 2)) := fun b h1 h5 ts t ht => go_run (tbl wf dfs (n + 1)) (t_pleases wf n) (t_lw wf n) (t_within wf n) b h1 h5 ts t ht
theorem t_lch (n : Nat) : LchOk (tbl wf dfs (n + 2)) := fun b h1 h5 ts t => lch_run (tbl wf dfs (n + 1)) (t_lots wf n) (t_inside wf n) b h1 h5 ts t
theorem t_doc (n : Nat) : DocOk (tbl wf dfs (n + 2)) := fun R N hR w cs hw hc hin q => doc_run (tbl wf dfs (n + 1)) (t_flat wf n) R N hR w cs hw hc hin q
theorem t_form (n : Nat) : FormOk (tbl wf dfs (n + 3)) := fun g k m h3 h5 => form_run (tbl wf dfs (n + 2)) (t_by wf n) (t_take wf (n + 1)) (t_pick wf n) (t_lots wf (n + 1)) g k m h3 h5
theorem t_tree (n : Nat) : TreeOk (tbl wf dfs (n + 3)) := fun b h1 h5 ts => tree_run (tbl wf dfs (n + 2)) b h1 h5 ts (t_lch wf n)
theorem t_fuel : ∀ n, (tbl wf dfs n).fuel = wf
  | 0 => rfl
  | _ + 1 => rfl
theorem t_split (hw : 300 < wf) (n : Nat) : SplitOk (tbl wf dfs (n + 3)) := fun b h1 h5 ts N hN hj hq => split_run (tbl wf dfs (n + 2)) (by rw [t_fuel]; exact hw) b h1 h5 ts (t_go wf n) N hN hj hq
theorem t_condition (n : Nat) : ConditionOk (tbl wf dfs (n + 4)) := fun g k m h3 h5 => condition_run (tbl wf dfs (n + 3)) (t_form wf n) (t_other wf (n + 1)) (t_pick wf (n + 1)) (t_lots wf (n + 2)) (t_take wf (n + 2)) g k m h3 h5
theorem t_drows (hw : 300 < wf) (n : Nat) : DrowsOk (tbl wf dfs (n + 4)) := fun b ts N hE h => drows_run (tbl wf dfs (n + 3)) (t_doc wf (n + 1)) (t_wanted wf (n + 1)) b ts _ N (t_split wf hw n b hE.1 hE.2.1 ts N hE.2.2.1 hE.2.2.2.1 hE.2.2.2.2) (told_in _ _ N hE.2.2.2.1 hE.2.2.2.2) (by have := hE.2.2.1; omega) h
theorem t_dmin (hw : 300 < wf) (n : Nat) : DminOk (tbl wf dfs (n + 5)) := fun b ts N hE h => dmin_run (tbl wf dfs (n + 4)) b ts h _ (fun e => by
  have h1 := diceW_len (wants ts h) (told (kids b ts) (upto b) N) N
  rw [e] at h1
  have h2 := qs_pos (kids b ts) (upto b) N
  rw [hE.2.2.2.2, ← h1] at h2
  exact absurd h2 (Nat.lt_irrefl 0)) (t_drows wf hw n b ts N hE h)
theorem law_true (hw : 300 < wf) (n : Nat) (ns : List Int) : (tbl wf dfs (n + 6)).f 58 [(.s, .list (ofInts ns))] = .ok ((.d, .bool true), [(.s, .list (ofInts ns))]) :=
  law_run (tbl wf dfs (n + 5)) (t_sameI wf (n + 4)) (t_sameT wf (n + 3)) (t_ldice wf (n + 4)) (t_drows wf hw (n + 1)) (t_dmin wf hw n) (t_tree wf (n + 2)) (t_box wf (n + 4)) (t_condition wf (n + 1)) ns
end
end K02
end PL
end

section
set_option linter.all false
set_option maxRecDepth 100000
set_option autoImplicit false
namespace PL
open PySem
namespace K02
theorem plain : ∀ (ns : List Int) (hl : ns.length ≤ 63), ∃ ws, (tbl 100000 dfs 40).f 58 [(.s, .list (ofInts ns))] = .ok ((.d, .bool true), ws) := fun ns _ => ⟨_, law_true 100000 (by decide) 34 ns⟩
/-! the text -/
open PySem.Spec
def stm (i : Nat) : Stmt := Challenge.pw_dicespareminds_k02_how_many_dice_minds.main.body.getD i (.Pass ⟨0, 0, 0, 0⟩)
def e_is_within : Ent := ⟨Str.ofString "is_within", 1, p1_is_within, [Str.ofString "one", Str.ofString "two", Str.ofString "entry"], [Str.ofString "one", Str.ofString "two"], stm 1, []⟩
def e_pleases : Ent := ⟨Str.ofString "pleases", 2, p2_pleases, [Str.ofString "condition", Str.ofString "lot"], [Str.ofString "condition", Str.ofString "lot"], stm 3, []⟩
def e_lots_within : Ent := ⟨Str.ofString "lots_within", 46, p46_lots_within, [Str.ofString "lot", Str.ofString "some", Str.ofString "bell", Str.ofString "one"], [Str.ofString "lot"], stm 4, []⟩
def e_greatest_other : Ent := ⟨Str.ofString "greatest_other", 47, p47_greatest_other, [Str.ofString "condition", Str.ofString "lot", Str.ofString "sort", Str.ofString "some", Str.ofString "one", Str.ofString "other"], [Str.ofString "condition", Str.ofString "lot"], stm 5, []⟩
def e_split_rows : Ent := ⟨Str.ofString "split_rows", 48, p48_split_rows, [Str.ofString "condition", Str.ofString "lots", Str.ofString "parents", Str.ofString "children", Str.ofString "done", Str.ofString "some", Str.ofString "one"], [Str.ofString "condition"], stm 7, []⟩
def e_is_wanted : Ent := ⟨Str.ofString "is_wanted", 6, p6_is_wanted, [Str.ofString "condition", Str.ofString "hand", Str.ofString "lot"], [Str.ofString "condition", Str.ofString "hand", Str.ofString "lot"], stm 9, []⟩
def e_is_flat : Ent := ⟨Str.ofString "is_flat", 7, p7_is_flat, [Str.ofString "rows", Str.ofString "number"], [Str.ofString "rows", Str.ofString "number"], stm 11, []⟩
def e_dice_of_children : Ent := ⟨Str.ofString "dice_of_children", 8, p8_dice_of_children, [Str.ofString "rows", Str.ofString "told", Str.ofString "children", Str.ofString "is_sum", Str.ofString "child", Str.ofString "deep"], [Str.ofString "rows", Str.ofString "told", Str.ofString "children", Str.ofString "is_sum"], stm 12, []⟩
def e_dice_rows : Ent := ⟨Str.ofString "dice_rows", 49, p49_dice_rows, [Str.ofString "condition", Str.ofString "hand", Str.ofString "rows", Str.ofString "told", Str.ofString "row", Str.ofString "number", Str.ofString "lot", Str.ofString "parent", Str.ofString "children"], [Str.ofString "condition", Str.ofString "hand"], stm 13, [(0, [Str.ofString "condition", Str.ofString "hand"])]⟩
def e_dice_minds : Ent := ⟨Str.ofString "dice_minds", 50, p50_dice_minds, [Str.ofString "condition", Str.ofString "hand"], [Str.ofString "condition", Str.ofString "hand"], stm 14, [(0, [Str.ofString "condition", Str.ofString "hand"])]⟩
def e_law_box : Ent := ⟨Str.ofString "_law_box", 11, p11_law_box, [Str.ofString "script", Str.ofString "k", Str.ofString "cell", Str.ofString "great"], [Str.ofString "script", Str.ofString "k"], stm 16, []⟩
def e_law_take : Ent := ⟨Str.ofString "_law_take", 12, p12_law_take, [Str.ofString "box", Str.ofString "many", Str.ofString "digit", Str.ofString "raw"], [Str.ofString "box", Str.ofString "many"], stm 17, []⟩
def e_law_pick : Ent := ⟨Str.ofString "_law_pick", 13, p13_law_pick, [Str.ofString "box", Str.ofString "some"], [Str.ofString "box", Str.ofString "some"], stm 18, []⟩
def e_law_same : Ent := ⟨Str.ofString "_law_same", 14, p14_law_same, [Str.ofString "told", Str.ofString "due", Str.ofString "one", Str.ofString "other"], [Str.ofString "told", Str.ofString "due"], stm 19, []⟩
def e_law_lots : Ent := ⟨Str.ofString "_law_lots", 51, p51_law_lots, [Str.ofString "bells", Str.ofString "lots", Str.ofString "bell", Str.ofString "lot"], [Str.ofString "bells"], stm 20, []⟩
def e_law_inside : Ent := ⟨Str.ofString "_law_inside", 16, p16_law_inside, [Str.ofString "one", Str.ofString "two", Str.ofString "bell"], [Str.ofString "one", Str.ofString "two"], stm 21, []⟩
def e_law_given : Ent := ⟨Str.ofString "_law_given", 17, p17_law_given, [Str.ofString "lot", Str.ofString "many", Str.ofString "pair"], [Str.ofString "lot", Str.ofString "many"], stm 22, []⟩
def e_law_by : Ent := ⟨Str.ofString "_law_by", 52, p52_law_by, [Str.ofString "bells", Str.ofString "kind", Str.ofString "what", Str.ofString "some", Str.ofString "lot", Str.ofString "bell"], [Str.ofString "bells", Str.ofString "kind", Str.ofString "what"], stm 23, []⟩
def e_law_form : Ent := ⟨Str.ofString "_law_form", 53, p53_law_form, [Str.ofString "box", Str.ofString "most", Str.ofString "bells", Str.ofString "kind", Str.ofString "what", Str.ofString "bell"], [Str.ofString "box", Str.ofString "most"], stm 24, []⟩
def e_law_other : Ent := ⟨Str.ofString "_law_other", 54, p54_law_other, [Str.ofString "condition", Str.ofString "lot"], [Str.ofString "condition"], stm 25, []⟩
def e_law_condition : Ent := ⟨Str.ofString "_law_condition", 55, p55_law_condition, [Str.ofString "box", Str.ofString "most", Str.ofString "way", Str.ofString "condition", Str.ofString "bells", Str.ofString "pleasing", Str.ofString "lots", Str.ofString "lot", Str.ofString "rare"], [Str.ofString "box", Str.ofString "most"], stm 26, []⟩
def e_law_children : Ent := ⟨Str.ofString "_law_children", 56, p56_law_children, [Str.ofString "condition", Str.ofString "lot", Str.ofString "sort", Str.ofString "some", Str.ofString "one", Str.ofString "found", Str.ofString "other"], [Str.ofString "condition", Str.ofString "lot"], stm 27, []⟩
def e_law_tree : Ent := ⟨Str.ofString "_law_tree", 57, p57_law_tree, [Str.ofString "condition", Str.ofString "rows", Str.ofString "told", Str.ofString "met", Str.ofString "turn", Str.ofString "lot", Str.ofString "parent", Str.ofString "one"], [Str.ofString "condition"], stm 28, []⟩
def e_law_dice : Ent := ⟨Str.ofString "_law_dice", 24, p24_law_dice, [Str.ofString "condition", Str.ofString "rows", Str.ofString "hand", Str.ofString "told", Str.ofString "number", Str.ofString "lot", Str.ofString "parent", Str.ofString "children", Str.ofString "deep", Str.ofString "child", Str.ofString "wanted"], [Str.ofString "condition", Str.ofString "rows", Str.ofString "hand"], stm 29, []⟩
def e_law : Ent := ⟨Str.ofString "law", 58, p58_law, [Str.ofString "script", Str.ofString "k", Str.ofString "box", Str.ofString "condition", Str.ofString "rows", Str.ofString "hand", Str.ofString "due"], [Str.ofString "script"], stm 30, []⟩
def entsL : List Ent := [e_is_within, e_pleases, e_lots_within, e_greatest_other, e_split_rows, e_is_wanted, e_is_flat, e_dice_of_children, e_dice_rows, e_dice_minds, e_law_box, e_law_take, e_law_pick, e_law_same, e_law_lots, e_law_inside, e_law_given, e_law_by, e_law_form, e_law_other, e_law_condition, e_law_children, e_law_tree, e_law_dice, e_law]
def fnsL : List (Str × Nat) := [(Str.ofString "is_within", 1), (Str.ofString "pleases", 2), (Str.ofString "lots_within", 46), (Str.ofString "greatest_other", 47), (Str.ofString "split_rows", 48), (Str.ofString "is_wanted", 6), (Str.ofString "is_flat", 7), (Str.ofString "dice_of_children", 8), (Str.ofString "dice_rows", 49), (Str.ofString "dice_minds", 50), (Str.ofString "_law_box", 11), (Str.ofString "_law_take", 12), (Str.ofString "_law_pick", 13), (Str.ofString "_law_same", 14), (Str.ofString "_law_lots", 51), (Str.ofString "_law_inside", 16), (Str.ofString "_law_given", 17), (Str.ofString "_law_by", 52), (Str.ofString "_law_form", 53), (Str.ofString "_law_other", 54), (Str.ofString "_law_condition", 55), (Str.ofString "_law_children", 56), (Str.ofString "_law_tree", 57), (Str.ofString "_law_dice", 24), (Str.ofString "law", 58)]
def kfnsL : List (Str × Nat × Nat × List Str) := [(Str.ofString "dice_rows", 49, 0, [Str.ofString "condition", Str.ofString "hand"]), (Str.ofString "dice_minds", 50, 0, [Str.ofString "condition", Str.ofString "hand"])]
def nonL : List Str := [Str.ofString "len", Str.ofString "abs", Str.ofString "int", Str.ofString "min", Str.ofString "max", Str.ofString "sum", Str.ofString "any", Str.ofString "tuple", Str.ofString "list", Str.ofString "sorted", Str.ofString "isinstance", Str.ofString "bool", Str.ofString "str", Str.ofString "range", Str.ofString "zip"]
theorem ok_is_within : EntOk fnsL kfnsL nonL 100 e_is_within := ⟨⟨rfl, rfl, rfl, by decide +kernel, rfl, by decide +kernel, by decide +kernel⟩, rfl, rfl, fun kV doc pm an cdv ct us hl => by
    match us, hl with
    | [_, _], _ => rfl, fun m ks h => (List.not_mem_nil h).elim, .inl rfl, by decide +kernel⟩
theorem ok_pleases : EntOk fnsL kfnsL nonL 100 e_pleases := ⟨⟨rfl, rfl, rfl, by decide +kernel, rfl, by decide +kernel, by decide +kernel⟩, rfl, rfl, fun kV doc pm an cdv ct us hl => by
    match us, hl with
    | [_, _], _ => rfl, fun m ks h => (List.not_mem_nil h).elim, .inl rfl, by decide +kernel⟩
theorem ok_lots_within : EntOk fnsL kfnsL nonL 100 e_lots_within := ⟨⟨rfl, rfl, rfl, by decide +kernel, rfl, by decide +kernel, by decide +kernel⟩, rfl, rfl, fun kV doc pm an cdv ct us hl => by
    match us, hl with
    | [_], _ => rfl, fun m ks h => (List.not_mem_nil h).elim, .inl rfl, by decide +kernel⟩
theorem ok_greatest_other : EntOk fnsL kfnsL nonL 100 e_greatest_other := ⟨⟨rfl, rfl, rfl, by decide +kernel, rfl, by decide +kernel, by decide +kernel⟩, rfl, rfl, fun kV doc pm an cdv ct us hl => by
    match us, hl with
    | [_, _], _ => rfl, fun m ks h => (List.not_mem_nil h).elim, .inl rfl, by decide +kernel⟩
theorem ok_split_rows : EntOk fnsL kfnsL nonL 100 e_split_rows := ⟨⟨rfl, rfl, rfl, by decide +kernel, rfl, by decide +kernel, by decide +kernel⟩, rfl, rfl, fun kV doc pm an cdv ct us hl => by
    match us, hl with
    | [_], _ => rfl, fun m ks h => (List.not_mem_nil h).elim, .inl rfl, by decide +kernel⟩
theorem ok_is_wanted : EntOk fnsL kfnsL nonL 100 e_is_wanted := ⟨⟨rfl, rfl, rfl, by decide +kernel, rfl, by decide +kernel, by decide +kernel⟩, rfl, rfl, fun kV doc pm an cdv ct us hl => by
    match us, hl with
    | [_, _, _], _ => rfl, fun m ks h => (List.not_mem_nil h).elim, .inl rfl, by decide +kernel⟩
theorem ok_is_flat : EntOk fnsL kfnsL nonL 100 e_is_flat := ⟨⟨rfl, rfl, rfl, by decide +kernel, rfl, by decide +kernel, by decide +kernel⟩, rfl, rfl, fun kV doc pm an cdv ct us hl => by
    match us, hl with
    | [_, _], _ => rfl, fun m ks h => (List.not_mem_nil h).elim, .inl rfl, by decide +kernel⟩
theorem ok_dice_of_children : EntOk fnsL kfnsL nonL 100 e_dice_of_children := ⟨⟨rfl, rfl, rfl, by decide +kernel, rfl, by decide +kernel, by decide +kernel⟩, rfl, rfl, fun kV doc pm an cdv ct us hl => by
    match us, hl with
    | [_, _, _, _], _ => rfl, fun m ks h => (List.not_mem_nil h).elim, .inl rfl, by decide +kernel⟩
theorem ok_dice_rows : EntOk fnsL kfnsL nonL 100 e_dice_rows := ⟨⟨rfl, rfl, rfl, by decide +kernel, rfl, by decide +kernel, by decide +kernel⟩, rfl, rfl, fun kV doc pm an cdv ct us hl => by
    match us, hl with
    | [_, _], _ => rfl, fun m ks h kV doc pm an cdv ct us ws l1 l2 => by
    cases List.mem_singleton.mp h
    match us, ws, l1, l2 with
    | [], [_, _], _, _ => rfl, .inr (by decide), by decide +kernel⟩
theorem ok_dice_minds : EntOk fnsL kfnsL nonL 100 e_dice_minds := ⟨⟨rfl, rfl, rfl, by decide +kernel, rfl, by decide +kernel, by decide +kernel⟩, rfl, rfl, fun kV doc pm an cdv ct us hl => by
    match us, hl with
    | [_, _], _ => rfl, fun m ks h kV doc pm an cdv ct us ws l1 l2 => by
    cases List.mem_singleton.mp h
    match us, ws, l1, l2 with
    | [], [_, _], _, _ => rfl, .inr (by decide), by decide +kernel⟩
theorem ok_law_box : EntOk fnsL kfnsL nonL 100 e_law_box := ⟨⟨rfl, rfl, rfl, by decide +kernel, rfl, by decide +kernel, by decide +kernel⟩, rfl, rfl, fun kV doc pm an cdv ct us hl => by
    match us, hl with
    | [_, _], _ => rfl, fun m ks h => (List.not_mem_nil h).elim, .inl rfl, by decide +kernel⟩
theorem ok_law_take : EntOk fnsL kfnsL nonL 100 e_law_take := ⟨⟨rfl, rfl, rfl, by decide +kernel, rfl, by decide +kernel, by decide +kernel⟩, rfl, rfl, fun kV doc pm an cdv ct us hl => by
    match us, hl with
    | [_, _], _ => rfl, fun m ks h => (List.not_mem_nil h).elim, .inl rfl, by decide +kernel⟩
theorem ok_law_pick : EntOk fnsL kfnsL nonL 100 e_law_pick := ⟨⟨rfl, rfl, rfl, by decide +kernel, rfl, by decide +kernel, by decide +kernel⟩, rfl, rfl, fun kV doc pm an cdv ct us hl => by
    match us, hl with
    | [_, _], _ => rfl, fun m ks h => (List.not_mem_nil h).elim, .inl rfl, by decide +kernel⟩
theorem ok_law_same : EntOk fnsL kfnsL nonL 100 e_law_same := ⟨⟨rfl, rfl, rfl, by decide +kernel, rfl, by decide +kernel, by decide +kernel⟩, rfl, rfl, fun kV doc pm an cdv ct us hl => by
    match us, hl with
    | [_, _], _ => rfl, fun m ks h => (List.not_mem_nil h).elim, .inl rfl, by decide +kernel⟩
theorem ok_law_lots : EntOk fnsL kfnsL nonL 100 e_law_lots := ⟨⟨rfl, rfl, rfl, by decide +kernel, rfl, by decide +kernel, by decide +kernel⟩, rfl, rfl, fun kV doc pm an cdv ct us hl => by
    match us, hl with
    | [_], _ => rfl, fun m ks h => (List.not_mem_nil h).elim, .inl rfl, by decide +kernel⟩
theorem ok_law_inside : EntOk fnsL kfnsL nonL 100 e_law_inside := ⟨⟨rfl, rfl, rfl, by decide +kernel, rfl, by decide +kernel, by decide +kernel⟩, rfl, rfl, fun kV doc pm an cdv ct us hl => by
    match us, hl with
    | [_, _], _ => rfl, fun m ks h => (List.not_mem_nil h).elim, .inl rfl, by decide +kernel⟩
theorem ok_law_given : EntOk fnsL kfnsL nonL 100 e_law_given := ⟨⟨rfl, rfl, rfl, by decide +kernel, rfl, by decide +kernel, by decide +kernel⟩, rfl, rfl, fun kV doc pm an cdv ct us hl => by
    match us, hl with
    | [_, _], _ => rfl, fun m ks h => (List.not_mem_nil h).elim, .inl rfl, by decide +kernel⟩
theorem ok_law_by : EntOk fnsL kfnsL nonL 100 e_law_by := ⟨⟨rfl, rfl, rfl, by decide +kernel, rfl, by decide +kernel, by decide +kernel⟩, rfl, rfl, fun kV doc pm an cdv ct us hl => by
    match us, hl with
    | [_, _, _], _ => rfl, fun m ks h => (List.not_mem_nil h).elim, .inl rfl, by decide +kernel⟩
theorem ok_law_form : EntOk fnsL kfnsL nonL 100 e_law_form := ⟨⟨rfl, rfl, rfl, by decide +kernel, rfl, by decide +kernel, by decide +kernel⟩, rfl, rfl, fun kV doc pm an cdv ct us hl => by
    match us, hl with
    | [_, _], _ => rfl, fun m ks h => (List.not_mem_nil h).elim, .inl rfl, by decide +kernel⟩
theorem ok_law_other : EntOk fnsL kfnsL nonL 100 e_law_other := ⟨⟨rfl, rfl, rfl, by decide +kernel, rfl, by decide +kernel, by decide +kernel⟩, rfl, rfl, fun kV doc pm an cdv ct us hl => by
    match us, hl with
    | [_], _ => rfl, fun m ks h => (List.not_mem_nil h).elim, .inl rfl, by decide +kernel⟩
theorem ok_law_condition : EntOk fnsL kfnsL nonL 100 e_law_condition := ⟨⟨rfl, rfl, rfl, by decide +kernel, rfl, by decide +kernel, by decide +kernel⟩, rfl, rfl, fun kV doc pm an cdv ct us hl => by
    match us, hl with
    | [_, _], _ => rfl, fun m ks h => (List.not_mem_nil h).elim, .inl rfl, by decide +kernel⟩
theorem ok_law_children : EntOk fnsL kfnsL nonL 100 e_law_children := ⟨⟨rfl, rfl, rfl, by decide +kernel, rfl, by decide +kernel, by decide +kernel⟩, rfl, rfl, fun kV doc pm an cdv ct us hl => by
    match us, hl with
    | [_, _], _ => rfl, fun m ks h => (List.not_mem_nil h).elim, .inl rfl, by decide +kernel⟩
theorem ok_law_tree : EntOk fnsL kfnsL nonL 100 e_law_tree := ⟨⟨rfl, rfl, rfl, by decide +kernel, rfl, by decide +kernel, by decide +kernel⟩, rfl, rfl, fun kV doc pm an cdv ct us hl => by
    match us, hl with
    | [_], _ => rfl, fun m ks h => (List.not_mem_nil h).elim, .inl rfl, by decide +kernel⟩
theorem ok_law_dice : EntOk fnsL kfnsL nonL 100 e_law_dice := ⟨⟨rfl, rfl, rfl, by decide +kernel, rfl, by decide +kernel, by decide +kernel⟩, rfl, rfl, fun kV doc pm an cdv ct us hl => by
    match us, hl with
    | [_, _, _], _ => rfl, fun m ks h => (List.not_mem_nil h).elim, .inl rfl, by decide +kernel⟩
theorem ok_law : EntOk fnsL kfnsL nonL 100 e_law := ⟨⟨rfl, rfl, rfl, by decide +kernel, rfl, by decide +kernel, by decide +kernel⟩, rfl, rfl, fun kV doc pm an cdv ct us hl => by
    match us, hl with
    | [_], _ => rfl, fun m ks h => (List.not_mem_nil h).elim, .inl rfl, by decide +kernel⟩
theorem ac {α : Type} {Q : α → Prop} {x : α} {xs : List α} (a : Q x) (b : ∀ e ∈ xs, Q e) : ∀ e ∈ x :: xs, Q e := fun e he => (List.mem_cons.mp he).elim (fun q => q ▸ a) (b e)
theorem an {α : Type} {Q : α → Prop} : ∀ e ∈ ([] : List α), Q e := fun e he => (List.not_mem_nil he).elim
theorem all_mk {P : Program} {w : World} {K : PySem.W.Frag} {h : Heap} {mg : Str → Option Value} {fa : Addr} (X : K.In h) (G : h.Ns mainGlobals mg) (hfa : mg "law" = some (.ref fa))
    {f0 : Addr} {od0 an0 : Option Addr} {sl0 : Array (Option Value)} {oc0 kV0 dc0 pm0 cd0 ct0 : Value}
    (a0 : PySem.W.nsIn K mainGlobals "is_within" = some (some (.ref f0))) (l0 : K.lookup f0 = some ⟨oc0, od0, .func (PySem.W.fnOf "is_within" "is_within" (L2.defArgs (stm 1)) (L2.defBody (stm 1)) (L2.defScope (stm 1)) .none kV0 dc0 pm0 an0 cd0 ct0), sl0⟩) (c0 : PySem.W.codeIn K cd0 "is_within" = true) (k0 : PySem.W.keepIn K (.ref f0) = true)
    {f1 : Addr} {od1 an1 : Option Addr} {sl1 : Array (Option Value)} {oc1 kV1 dc1 pm1 cd1 ct1 : Value}
    (a1 : PySem.W.nsIn K mainGlobals "pleases" = some (some (.ref f1))) (l1 : K.lookup f1 = some ⟨oc1, od1, .func (PySem.W.fnOf "pleases" "pleases" (L2.defArgs (stm 3)) (L2.defBody (stm 3)) (L2.defScope (stm 3)) .none kV1 dc1 pm1 an1 cd1 ct1), sl1⟩) (c1 : PySem.W.codeIn K cd1 "pleases" = true) (k1 : PySem.W.keepIn K (.ref f1) = true)
    {f2 : Addr} {od2 an2 : Option Addr} {sl2 : Array (Option Value)} {oc2 kV2 dc2 pm2 cd2 ct2 : Value}
    (a2 : PySem.W.nsIn K mainGlobals "lots_within" = some (some (.ref f2))) (l2 : K.lookup f2 = some ⟨oc2, od2, .func (PySem.W.fnOf "lots_within" "lots_within" (L2.defArgs (stm 4)) (L2.defBody (stm 4)) (L2.defScope (stm 4)) .none kV2 dc2 pm2 an2 cd2 ct2), sl2⟩) (c2 : PySem.W.codeIn K cd2 "lots_within" = true) (k2 : PySem.W.keepIn K (.ref f2) = true)
    {f3 : Addr} {od3 an3 : Option Addr} {sl3 : Array (Option Value)} {oc3 kV3 dc3 pm3 cd3 ct3 : Value}
    (a3 : PySem.W.nsIn K mainGlobals "greatest_other" = some (some (.ref f3))) (l3 : K.lookup f3 = some ⟨oc3, od3, .func (PySem.W.fnOf "greatest_other" "greatest_other" (L2.defArgs (stm 5)) (L2.defBody (stm 5)) (L2.defScope (stm 5)) .none kV3 dc3 pm3 an3 cd3 ct3), sl3⟩) (c3 : PySem.W.codeIn K cd3 "greatest_other" = true) (k3 : PySem.W.keepIn K (.ref f3) = true)
    {f4 : Addr} {od4 an4 : Option Addr} {sl4 : Array (Option Value)} {oc4 kV4 dc4 pm4 cd4 ct4 : Value}
    (a4 : PySem.W.nsIn K mainGlobals "split_rows" = some (some (.ref f4))) (l4 : K.lookup f4 = some ⟨oc4, od4, .func (PySem.W.fnOf "split_rows" "split_rows" (L2.defArgs (stm 7)) (L2.defBody (stm 7)) (L2.defScope (stm 7)) .none kV4 dc4 pm4 an4 cd4 ct4), sl4⟩) (c4 : PySem.W.codeIn K cd4 "split_rows" = true) (k4 : PySem.W.keepIn K (.ref f4) = true)
    {f5 : Addr} {od5 an5 : Option Addr} {sl5 : Array (Option Value)} {oc5 kV5 dc5 pm5 cd5 ct5 : Value}
    (a5 : PySem.W.nsIn K mainGlobals "is_wanted" = some (some (.ref f5))) (l5 : K.lookup f5 = some ⟨oc5, od5, .func (PySem.W.fnOf "is_wanted" "is_wanted" (L2.defArgs (stm 9)) (L2.defBody (stm 9)) (L2.defScope (stm 9)) .none kV5 dc5 pm5 an5 cd5 ct5), sl5⟩) (c5 : PySem.W.codeIn K cd5 "is_wanted" = true) (k5 : PySem.W.keepIn K (.ref f5) = true)
    {f6 : Addr} {od6 an6 : Option Addr} {sl6 : Array (Option Value)} {oc6 kV6 dc6 pm6 cd6 ct6 : Value}
    (a6 : PySem.W.nsIn K mainGlobals "is_flat" = some (some (.ref f6))) (l6 : K.lookup f6 = some ⟨oc6, od6, .func (PySem.W.fnOf "is_flat" "is_flat" (L2.defArgs (stm 11)) (L2.defBody (stm 11)) (L2.defScope (stm 11)) .none kV6 dc6 pm6 an6 cd6 ct6), sl6⟩) (c6 : PySem.W.codeIn K cd6 "is_flat" = true) (k6 : PySem.W.keepIn K (.ref f6) = true)
    {f7 : Addr} {od7 an7 : Option Addr} {sl7 : Array (Option Value)} {oc7 kV7 dc7 pm7 cd7 ct7 : Value}
    (a7 : PySem.W.nsIn K mainGlobals "dice_of_children" = some (some (.ref f7))) (l7 : K.lookup f7 = some ⟨oc7, od7, .func (PySem.W.fnOf "dice_of_children" "dice_of_children" (L2.defArgs (stm 12)) (L2.defBody (stm 12)) (L2.defScope (stm 12)) .none kV7 dc7 pm7 an7 cd7 ct7), sl7⟩) (c7 : PySem.W.codeIn K cd7 "dice_of_children" = true) (k7 : PySem.W.keepIn K (.ref f7) = true)
    {f8 : Addr} {od8 an8 : Option Addr} {sl8 : Array (Option Value)} {oc8 kV8 dc8 pm8 cd8 ct8 : Value}
    (a8 : PySem.W.nsIn K mainGlobals "dice_rows" = some (some (.ref f8))) (l8 : K.lookup f8 = some ⟨oc8, od8, .func (PySem.W.fnOf "dice_rows" "dice_rows" (L2.defArgs (stm 13)) (L2.defBody (stm 13)) (L2.defScope (stm 13)) .none kV8 dc8 pm8 an8 cd8 ct8), sl8⟩) (c8 : PySem.W.codeIn K cd8 "dice_rows" = true) (k8 : PySem.W.keepIn K (.ref f8) = true)
    {f9 : Addr} {od9 an9 : Option Addr} {sl9 : Array (Option Value)} {oc9 kV9 dc9 pm9 cd9 ct9 : Value}
    (a9 : PySem.W.nsIn K mainGlobals "dice_minds" = some (some (.ref f9))) (l9 : K.lookup f9 = some ⟨oc9, od9, .func (PySem.W.fnOf "dice_minds" "dice_minds" (L2.defArgs (stm 14)) (L2.defBody (stm 14)) (L2.defScope (stm 14)) .none kV9 dc9 pm9 an9 cd9 ct9), sl9⟩) (c9 : PySem.W.codeIn K cd9 "dice_minds" = true) (k9 : PySem.W.keepIn K (.ref f9) = true)
    {f10 : Addr} {od10 an10 : Option Addr} {sl10 : Array (Option Value)} {oc10 kV10 dc10 pm10 cd10 ct10 : Value}
    (a10 : PySem.W.nsIn K mainGlobals "_law_box" = some (some (.ref f10))) (l10 : K.lookup f10 = some ⟨oc10, od10, .func (PySem.W.fnOf "_law_box" "_law_box" (L2.defArgs (stm 16)) (L2.defBody (stm 16)) (L2.defScope (stm 16)) .none kV10 dc10 pm10 an10 cd10 ct10), sl10⟩) (c10 : PySem.W.codeIn K cd10 "_law_box" = true) (k10 : PySem.W.keepIn K (.ref f10) = true)
    {f11 : Addr} {od11 an11 : Option Addr} {sl11 : Array (Option Value)} {oc11 kV11 dc11 pm11 cd11 ct11 : Value}
    (a11 : PySem.W.nsIn K mainGlobals "_law_take" = some (some (.ref f11))) (l11 : K.lookup f11 = some ⟨oc11, od11, .func (PySem.W.fnOf "_law_take" "_law_take" (L2.defArgs (stm 17)) (L2.defBody (stm 17)) (L2.defScope (stm 17)) .none kV11 dc11 pm11 an11 cd11 ct11), sl11⟩) (c11 : PySem.W.codeIn K cd11 "_law_take" = true) (k11 : PySem.W.keepIn K (.ref f11) = true)
    {f12 : Addr} {od12 an12 : Option Addr} {sl12 : Array (Option Value)} {oc12 kV12 dc12 pm12 cd12 ct12 : Value}
    (a12 : PySem.W.nsIn K mainGlobals "_law_pick" = some (some (.ref f12))) (l12 : K.lookup f12 = some ⟨oc12, od12, .func (PySem.W.fnOf "_law_pick" "_law_pick" (L2.defArgs (stm 18)) (L2.defBody (stm 18)) (L2.defScope (stm 18)) .none kV12 dc12 pm12 an12 cd12 ct12), sl12⟩) (c12 : PySem.W.codeIn K cd12 "_law_pick" = true) (k12 : PySem.W.keepIn K (.ref f12) = true)
    {f13 : Addr} {od13 an13 : Option Addr} {sl13 : Array (Option Value)} {oc13 kV13 dc13 pm13 cd13 ct13 : Value}
    (a13 : PySem.W.nsIn K mainGlobals "_law_same" = some (some (.ref f13))) (l13 : K.lookup f13 = some ⟨oc13, od13, .func (PySem.W.fnOf "_law_same" "_law_same" (L2.defArgs (stm 19)) (L2.defBody (stm 19)) (L2.defScope (stm 19)) .none kV13 dc13 pm13 an13 cd13 ct13), sl13⟩) (c13 : PySem.W.codeIn K cd13 "_law_same" = true) (k13 : PySem.W.keepIn K (.ref f13) = true)
    {f14 : Addr} {od14 an14 : Option Addr} {sl14 : Array (Option Value)} {oc14 kV14 dc14 pm14 cd14 ct14 : Value}
    (a14 : PySem.W.nsIn K mainGlobals "_law_lots" = some (some (.ref f14))) (l14 : K.lookup f14 = some ⟨oc14, od14, .func (PySem.W.fnOf "_law_lots" "_law_lots" (L2.defArgs (stm 20)) (L2.defBody (stm 20)) (L2.defScope (stm 20)) .none kV14 dc14 pm14 an14 cd14 ct14), sl14⟩) (c14 : PySem.W.codeIn K cd14 "_law_lots" = true) (k14 : PySem.W.keepIn K (.ref f14) = true)
    {f15 : Addr} {od15 an15 : Option Addr} {sl15 : Array (Option Value)} {oc15 kV15 dc15 pm15 cd15 ct15 : Value}
    (a15 : PySem.W.nsIn K mainGlobals "_law_inside" = some (some (.ref f15))) (l15 : K.lookup f15 = some ⟨oc15, od15, .func (PySem.W.fnOf "_law_inside" "_law_inside" (L2.defArgs (stm 21)) (L2.defBody (stm 21)) (L2.defScope (stm 21)) .none kV15 dc15 pm15 an15 cd15 ct15), sl15⟩) (c15 : PySem.W.codeIn K cd15 "_law_inside" = true) (k15 : PySem.W.keepIn K (.ref f15) = true)
    {f16 : Addr} {od16 an16 : Option Addr} {sl16 : Array (Option Value)} {oc16 kV16 dc16 pm16 cd16 ct16 : Value}
    (a16 : PySem.W.nsIn K mainGlobals "_law_given" = some (some (.ref f16))) (l16 : K.lookup f16 = some ⟨oc16, od16, .func (PySem.W.fnOf "_law_given" "_law_given" (L2.defArgs (stm 22)) (L2.defBody (stm 22)) (L2.defScope (stm 22)) .none kV16 dc16 pm16 an16 cd16 ct16), sl16⟩) (c16 : PySem.W.codeIn K cd16 "_law_given" = true) (k16 : PySem.W.keepIn K (.ref f16) = true)
    {f17 : Addr} {od17 an17 : Option Addr} {sl17 : Array (Option Value)} {oc17 kV17 dc17 pm17 cd17 ct17 : Value}
    (a17 : PySem.W.nsIn K mainGlobals "_law_by" = some (some (.ref f17))) (l17 : K.lookup f17 = some ⟨oc17, od17, .func (PySem.W.fnOf "_law_by" "_law_by" (L2.defArgs (stm 23)) (L2.defBody (stm 23)) (L2.defScope (stm 23)) .none kV17 dc17 pm17 an17 cd17 ct17), sl17⟩) (c17 : PySem.W.codeIn K cd17 "_law_by" = true) (k17 : PySem.W.keepIn K (.ref f17) = true)
    {f18 : Addr} {od18 an18 : Option Addr} {sl18 : Array (Option Value)} {oc18 kV18 dc18 pm18 cd18 ct18 : Value}
    (a18 : PySem.W.nsIn K mainGlobals "_law_form" = some (some (.ref f18))) (l18 : K.lookup f18 = some ⟨oc18, od18, .func (PySem.W.fnOf "_law_form" "_law_form" (L2.defArgs (stm 24)) (L2.defBody (stm 24)) (L2.defScope (stm 24)) .none kV18 dc18 pm18 an18 cd18 ct18), sl18⟩) (c18 : PySem.W.codeIn K cd18 "_law_form" = true) (k18 : PySem.W.keepIn K (.ref f18) = true)
    {f19 : Addr} {od19 an19 : Option Addr} {sl19 : Array (Option Value)} {oc19 kV19 dc19 pm19 cd19 ct19 : Value}
    (a19 : PySem.W.nsIn K mainGlobals "_law_other" = some (some (.ref f19))) (l19 : K.lookup f19 = some ⟨oc19, od19, .func (PySem.W.fnOf "_law_other" "_law_other" (L2.defArgs (stm 25)) (L2.defBody (stm 25)) (L2.defScope (stm 25)) .none kV19 dc19 pm19 an19 cd19 ct19), sl19⟩) (c19 : PySem.W.codeIn K cd19 "_law_other" = true) (k19 : PySem.W.keepIn K (.ref f19) = true)
    {f20 : Addr} {od20 an20 : Option Addr} {sl20 : Array (Option Value)} {oc20 kV20 dc20 pm20 cd20 ct20 : Value}
    (a20 : PySem.W.nsIn K mainGlobals "_law_condition" = some (some (.ref f20))) (l20 : K.lookup f20 = some ⟨oc20, od20, .func (PySem.W.fnOf "_law_condition" "_law_condition" (L2.defArgs (stm 26)) (L2.defBody (stm 26)) (L2.defScope (stm 26)) .none kV20 dc20 pm20 an20 cd20 ct20), sl20⟩) (c20 : PySem.W.codeIn K cd20 "_law_condition" = true) (k20 : PySem.W.keepIn K (.ref f20) = true)
    {f21 : Addr} {od21 an21 : Option Addr} {sl21 : Array (Option Value)} {oc21 kV21 dc21 pm21 cd21 ct21 : Value}
    (a21 : PySem.W.nsIn K mainGlobals "_law_children" = some (some (.ref f21))) (l21 : K.lookup f21 = some ⟨oc21, od21, .func (PySem.W.fnOf "_law_children" "_law_children" (L2.defArgs (stm 27)) (L2.defBody (stm 27)) (L2.defScope (stm 27)) .none kV21 dc21 pm21 an21 cd21 ct21), sl21⟩) (c21 : PySem.W.codeIn K cd21 "_law_children" = true) (k21 : PySem.W.keepIn K (.ref f21) = true)
    {f22 : Addr} {od22 an22 : Option Addr} {sl22 : Array (Option Value)} {oc22 kV22 dc22 pm22 cd22 ct22 : Value}
    (a22 : PySem.W.nsIn K mainGlobals "_law_tree" = some (some (.ref f22))) (l22 : K.lookup f22 = some ⟨oc22, od22, .func (PySem.W.fnOf "_law_tree" "_law_tree" (L2.defArgs (stm 28)) (L2.defBody (stm 28)) (L2.defScope (stm 28)) .none kV22 dc22 pm22 an22 cd22 ct22), sl22⟩) (c22 : PySem.W.codeIn K cd22 "_law_tree" = true) (k22 : PySem.W.keepIn K (.ref f22) = true)
    {f23 : Addr} {od23 an23 : Option Addr} {sl23 : Array (Option Value)} {oc23 kV23 dc23 pm23 cd23 ct23 : Value}
    (a23 : PySem.W.nsIn K mainGlobals "_law_dice" = some (some (.ref f23))) (l23 : K.lookup f23 = some ⟨oc23, od23, .func (PySem.W.fnOf "_law_dice" "_law_dice" (L2.defArgs (stm 29)) (L2.defBody (stm 29)) (L2.defScope (stm 29)) .none kV23 dc23 pm23 an23 cd23 ct23), sl23⟩) (c23 : PySem.W.codeIn K cd23 "_law_dice" = true) (k23 : PySem.W.keepIn K (.ref f23) = true)
    {f24 : Addr} {od24 an24 : Option Addr} {sl24 : Array (Option Value)} {oc24 kV24 dc24 pm24 cd24 ct24 : Value}
    (a24 : PySem.W.nsIn K mainGlobals "law" = some (some (.ref f24))) (l24 : K.lookup f24 = some ⟨oc24, od24, .func (PySem.W.fnOf "law" "law" (L2.defArgs (stm 30)) (L2.defBody (stm 30)) (L2.defScope (stm 30)) .none kV24 dc24 pm24 an24 cd24 ct24), sl24⟩) (c24 : PySem.W.codeIn K cd24 "law" = true) (k24 : PySem.W.keepIn K (.ref f24) = true)
    (z0 : PySem.W.nsIn K mainGlobals "len" = some none)
    (z1 : PySem.W.nsIn K mainGlobals "abs" = some none)
    (z2 : PySem.W.nsIn K mainGlobals "int" = some none)
    (z3 : PySem.W.nsIn K mainGlobals "min" = some none)
    (z4 : PySem.W.nsIn K mainGlobals "max" = some none)
    (z5 : PySem.W.nsIn K mainGlobals "sum" = some none)
    (z6 : PySem.W.nsIn K mainGlobals "any" = some none)
    (z7 : PySem.W.nsIn K mainGlobals "tuple" = some none)
    (z8 : PySem.W.nsIn K mainGlobals "list" = some none)
    (z9 : PySem.W.nsIn K mainGlobals "sorted" = some none)
    (z10 : PySem.W.nsIn K mainGlobals "isinstance" = some none)
    (z11 : PySem.W.nsIn K mainGlobals "bool" = some none)
    (z12 : PySem.W.nsIn K mainGlobals "str" = some none)
    (z13 : PySem.W.nsIn K mainGlobals "range" = some none)
    (z14 : PySem.W.nsIn K mainGlobals "zip" = some none) :
    ∃ fd : FuncData, (∀ (s : Shared) (v : Value), BindsTo s fd ⟨[v], []⟩ [("script", v)]) ∧ ∀ base : Heap, K.In base → base.Ns mainGlobals mg → L2.FnOk P w K mg base L2.CX0 40 fa fd ["script"] (spOf K ((tbl 100000 dfs 40).f 58)) := by
  have e := hfa.symm.trans (PySem.W.mg_of X G a24)
  cases e
  refine ⟨PySem.W.fnOf "law" "law" (L2.defArgs (stm 30)) (L2.defBody (stm 30)) (L2.defScope (stm 30)) .none kV24 dc24 pm24 an24 cd24 ct24, fun s v => .of_eq rfl, fun base _ _ => ?_⟩
  have H := all_ok (P := P) (w := w) (base := base) (wf := 100000) (ents := entsL) (fns := fnsL) (kfns := kfnsL) (non := nonL) (fuel := 100) (defs := dfs) (mg := mg) (K := K)
    (ac rfl <| ac rfl <| ac rfl <| ac rfl <| ac rfl <| ac rfl <| ac rfl <| ac rfl <| ac rfl <| ac rfl <| ac rfl <| ac rfl <| ac rfl <| ac rfl <| ac rfl <| ac rfl <| ac rfl <| ac rfl <| ac rfl <| ac rfl <| ac rfl <| ac rfl <| ac rfl <| ac rfl <| ac rfl <| an)
    (ac ok_is_within <| ac ok_pleases <| ac ok_lots_within <| ac ok_greatest_other <| ac ok_split_rows <| ac ok_is_wanted <| ac ok_is_flat <| ac ok_dice_of_children <| ac ok_dice_rows <| ac ok_dice_minds <| ac ok_law_box <| ac ok_law_take <| ac ok_law_pick <| ac ok_law_same <| ac ok_law_lots <| ac ok_law_inside <| ac ok_law_given <| ac ok_law_by <| ac ok_law_form <| ac ok_law_other <| ac ok_law_condition <| ac ok_law_children <| ac ok_law_tree <| ac ok_law_dice <| ac ok_law <| an)
    (ac ⟨f0, oc0, od0, kV0, dc0, pm0, an0, cd0, ct0, sl0, PySem.W.mg_of X G a0, k0, l0, c0⟩ <| ac ⟨f1, oc1, od1, kV1, dc1, pm1, an1, cd1, ct1, sl1, PySem.W.mg_of X G a1, k1, l1, c1⟩ <| ac ⟨f2, oc2, od2, kV2, dc2, pm2, an2, cd2, ct2, sl2, PySem.W.mg_of X G a2, k2, l2, c2⟩ <| ac ⟨f3, oc3, od3, kV3, dc3, pm3, an3, cd3, ct3, sl3, PySem.W.mg_of X G a3, k3, l3, c3⟩ <| ac ⟨f4, oc4, od4, kV4, dc4, pm4, an4, cd4, ct4, sl4, PySem.W.mg_of X G a4, k4, l4, c4⟩ <| ac ⟨f5, oc5, od5, kV5, dc5, pm5, an5, cd5, ct5, sl5, PySem.W.mg_of X G a5, k5, l5, c5⟩ <| ac ⟨f6, oc6, od6, kV6, dc6, pm6, an6, cd6, ct6, sl6, PySem.W.mg_of X G a6, k6, l6, c6⟩ <| ac ⟨f7, oc7, od7, kV7, dc7, pm7, an7, cd7, ct7, sl7, PySem.W.mg_of X G a7, k7, l7, c7⟩ <| ac ⟨f8, oc8, od8, kV8, dc8, pm8, an8, cd8, ct8, sl8, PySem.W.mg_of X G a8, k8, l8, c8⟩ <| ac ⟨f9, oc9, od9, kV9, dc9, pm9, an9, cd9, ct9, sl9, PySem.W.mg_of X G a9, k9, l9, c9⟩ <| ac ⟨f10, oc10, od10, kV10, dc10, pm10, an10, cd10, ct10, sl10, PySem.W.mg_of X G a10, k10, l10, c10⟩ <| ac ⟨f11, oc11, od11, kV11, dc11, pm11, an11, cd11, ct11, sl11, PySem.W.mg_of X G a11, k11, l11, c11⟩ <| ac ⟨f12, oc12, od12, kV12, dc12, pm12, an12, cd12, ct12, sl12, PySem.W.mg_of X G a12, k12, l12, c12⟩ <| ac ⟨f13, oc13, od13, kV13, dc13, pm13, an13, cd13, ct13, sl13, PySem.W.mg_of X G a13, k13, l13, c13⟩ <| ac ⟨f14, oc14, od14, kV14, dc14, pm14, an14, cd14, ct14, sl14, PySem.W.mg_of X G a14, k14, l14, c14⟩ <| ac ⟨f15, oc15, od15, kV15, dc15, pm15, an15, cd15, ct15, sl15, PySem.W.mg_of X G a15, k15, l15, c15⟩ <| ac ⟨f16, oc16, od16, kV16, dc16, pm16, an16, cd16, ct16, sl16, PySem.W.mg_of X G a16, k16, l16, c16⟩ <| ac ⟨f17, oc17, od17, kV17, dc17, pm17, an17, cd17, ct17, sl17, PySem.W.mg_of X G a17, k17, l17, c17⟩ <| ac ⟨f18, oc18, od18, kV18, dc18, pm18, an18, cd18, ct18, sl18, PySem.W.mg_of X G a18, k18, l18, c18⟩ <| ac ⟨f19, oc19, od19, kV19, dc19, pm19, an19, cd19, ct19, sl19, PySem.W.mg_of X G a19, k19, l19, c19⟩ <| ac ⟨f20, oc20, od20, kV20, dc20, pm20, an20, cd20, ct20, sl20, PySem.W.mg_of X G a20, k20, l20, c20⟩ <| ac ⟨f21, oc21, od21, kV21, dc21, pm21, an21, cd21, ct21, sl21, PySem.W.mg_of X G a21, k21, l21, c21⟩ <| ac ⟨f22, oc22, od22, kV22, dc22, pm22, an22, cd22, ct22, sl22, PySem.W.mg_of X G a22, k22, l22, c22⟩ <| ac ⟨f23, oc23, od23, kV23, dc23, pm23, an23, cd23, ct23, sl23, PySem.W.mg_of X G a23, k23, l23, c23⟩ <| ac ⟨fa, oc24, od24, kV24, dc24, pm24, an24, cd24, ct24, sl24, PySem.W.mg_of X G a24, k24, l24, c24⟩ <| an)
    (ac (PySem.W.mg_none_of X G z0) <| ac (PySem.W.mg_none_of X G z1) <| ac (PySem.W.mg_none_of X G z2) <| ac (PySem.W.mg_none_of X G z3) <| ac (PySem.W.mg_none_of X G z4) <| ac (PySem.W.mg_none_of X G z5) <| ac (PySem.W.mg_none_of X G z6) <| ac (PySem.W.mg_none_of X G z7) <| ac (PySem.W.mg_none_of X G z8) <| ac (PySem.W.mg_none_of X G z9) <| ac (PySem.W.mg_none_of X G z10) <| ac (PySem.W.mg_none_of X G z11) <| ac (PySem.W.mg_none_of X G z12) <| ac (PySem.W.mg_none_of X G z13) <| ac (PySem.W.mg_none_of X G z14) <| an)
    (fun x f hx => by
      have hx2 : (x, f) ∈ entsL.map fun e => (e.x, e.f) := hx
      obtain ⟨e, he, q⟩ := List.mem_map.mp hx2
      cases q
      exact ⟨e, he, rfl, rfl⟩)
    (fun x f m ks hx => by
      have hx2 : (x, f, m, ks) ∈ entsL.flatMap fun e => e.kws.map fun t => (e.x, e.f, t.1, t.2) := hx
      obtain ⟨e, he, q⟩ := List.mem_flatMap.mp hx2
      obtain ⟨t, ht, q⟩ := List.mem_map.mp q
      cases q
      exact ⟨e, he, rfl, rfl, ht⟩)
  exact H 40 e_law (by simp [entsL]) fa oc24 od24 kV24 dc24 pm24 an24 cd24 ct24 sl24 l24 c24
theorem walk {l : PySem.W.OpenLaw} {q : Program} {loose : List Str} {XP : (Str → Option Value) → Heap → Prop} {YP : World → Heap → Prop} {d : DefRec} {K : Params → PySem.W.Frag} (hn : l.most = some 63) (hdf : d.params.defaults = [])
    (hY : ∀ (w : World) (h : Heap), YP w h → (K w.params).In h)
    (F : ∀ (w : World) (mg : Str → Option Value) (fa : Addr) (h : Heap), (K w.params).In h → h.Ns mainGlobals mg → mg d.name = some (.ref fa) →
      ∃ fd : FuncData, (∀ (s : Shared) (v : Value), BindsTo s fd ⟨[v], []⟩ [("script", v)]) ∧ ∀ base : Heap, (K w.params).In base → base.Ns mainGlobals mg → L2.FnOk l.prog w (K w.params) mg base L2.CX0 40 fa fd ["script"] (spOf (K w.params) ((tbl 100000 dfs 40).f 58))) :
    PySem.W.WalkO q loose XP YP l.row.toRowW d [] (fun f vs => PySem.call f vs) :=
  L2.walk_of (n := 63) (k := 40) (x := "script") (CX := fun _ => L2.CX0) (sp := fun w => spOf (K w.params) ((tbl 100000 dfs 40).f 58)) hn (by decide) hdf ⟨rfl, by decide, by decide⟩ hY F (fun _ _ a ns hl hO hS => by
    obtain ⟨ws, ev⟩ := plain ns hl
    exact law_sp hO hS ev) fun _ _ _ _ _ z => z
end K02
end PL
open PySem PySem.W PyProof.Rows in
set_option maxRecDepth 100000 in
set_option maxHeartbeats 0 in
theorem PySem.Challenge.cw_dicespareminds_k02_how_many_dice_minds_holds : PySem.Challenge.rw_dicespareminds_k02_how_many_dice_minds.Holds := by
  w_on; o_law; k_head; (case hw => w_witness2)
  k_fill
  refine PL.K02.walk (l := PySem.Challenge.rw_dicespareminds_k02_how_many_dice_minds) rfl rfl (fun w h Y => PySem.W.kIn_of Y) ?F
  case F =>
    intro w mg fa h KX G hmg
    refine' PL.K02.all_mk KX G hmg ?a0 ?l0 ?c0 ?k0 ?a1 ?l1 ?c1 ?k1 ?a2 ?l2 ?c2 ?k2 ?a3 ?l3 ?c3 ?k3 ?a4 ?l4 ?c4 ?k4 ?a5 ?l5 ?c5 ?k5 ?a6 ?l6 ?c6 ?k6 ?a7 ?l7 ?c7 ?k7 ?a8 ?l8 ?c8 ?k8 ?a9 ?l9 ?c9 ?k9 ?a10 ?l10 ?c10 ?k10 ?a11 ?l11 ?c11 ?k11 ?a12 ?l12 ?c12 ?k12 ?a13 ?l13 ?c13 ?k13 ?a14 ?l14 ?c14 ?k14 ?a15 ?l15 ?c15 ?k15 ?a16 ?l16 ?c16 ?k16 ?a17 ?l17 ?c17 ?k17 ?a18 ?l18 ?c18 ?k18 ?a19 ?l19 ?c19 ?k19 ?a20 ?l20 ?c20 ?k20 ?a21 ?l21 ?c21 ?k21 ?a22 ?l22 ?c22 ?k22 ?a23 ?l23 ?c23 ?k23 ?a24 ?l24 ?c24 ?k24 ?z0 ?z1 ?z2 ?z3 ?z4 ?z5 ?z6 ?z7 ?z8 ?z9 ?z10 ?z11 ?z12 ?z13 ?z14
    (case a0 => k_is)
    (case l0 => k_is)
    (case c0 => k_is)
    (case k0 => k_is)
    (case a1 => k_is)
    (case l1 => k_is)
    (case c1 => k_is)
    (case k1 => k_is)
    (case a2 => k_is)
    (case l2 => k_is)
    (case c2 => k_is)
    (case k2 => k_is)
    (case a3 => k_is)
    (case l3 => k_is)
    (case c3 => k_is)
    (case k3 => k_is)
    (case a4 => k_is)
    (case l4 => k_is)
    (case c4 => k_is)
    (case k4 => k_is)
    (case a5 => k_is)
    (case l5 => k_is)
    (case c5 => k_is)
    (case k5 => k_is)
    (case a6 => k_is)
    (case l6 => k_is)
    (case c6 => k_is)
    (case k6 => k_is)
    (case a7 => k_is)
    (case l7 => k_is)
    (case c7 => k_is)
    (case k7 => k_is)
    (case a8 => k_is)
    (case l8 => k_is)
    (case c8 => k_is)
    (case k8 => k_is)
    (case a9 => k_is)
    (case l9 => k_is)
    (case c9 => k_is)
    (case k9 => k_is)
    (case a10 => k_is)
    (case l10 => k_is)
    (case c10 => k_is)
    (case k10 => k_is)
    (case a11 => k_is)
    (case l11 => k_is)
    (case c11 => k_is)
    (case k11 => k_is)
    (case a12 => k_is)
    (case l12 => k_is)
    (case c12 => k_is)
    (case k12 => k_is)
    (case a13 => k_is)
    (case l13 => k_is)
    (case c13 => k_is)
    (case k13 => k_is)
    (case a14 => k_is)
    (case l14 => k_is)
    (case c14 => k_is)
    (case k14 => k_is)
    (case a15 => k_is)
    (case l15 => k_is)
    (case c15 => k_is)
    (case k15 => k_is)
    (case a16 => k_is)
    (case l16 => k_is)
    (case c16 => k_is)
    (case k16 => k_is)
    (case a17 => k_is)
    (case l17 => k_is)
    (case c17 => k_is)
    (case k17 => k_is)
    (case a18 => k_is)
    (case l18 => k_is)
    (case c18 => k_is)
    (case k18 => k_is)
    (case a19 => k_is)
    (case l19 => k_is)
    (case c19 => k_is)
    (case k19 => k_is)
    (case a20 => k_is)
    (case l20 => k_is)
    (case c20 => k_is)
    (case k20 => k_is)
    (case a21 => k_is)
    (case l21 => k_is)
    (case c21 => k_is)
    (case k21 => k_is)
    (case a22 => k_is)
    (case l22 => k_is)
    (case c22 => k_is)
    (case k22 => k_is)
    (case a23 => k_is)
    (case l23 => k_is)
    (case c23 => k_is)
    (case k23 => k_is)
    (case a24 => k_is)
    (case l24 => k_is)
    (case c24 => k_is)
    (case k24 => k_is)
    (case z0 => k_is)
    (case z1 => k_is)
    (case z2 => k_is)
    (case z3 => k_is)
    (case z4 => k_is)
    (case z5 => k_is)
    (case z6 => k_is)
    (case z7 => k_is)
    (case z8 => k_is)
    (case z9 => k_is)
    (case z10 => k_is)
    (case z11 => k_is)
    (case z12 => k_is)
    (case z13 => k_is)
    (case z14 => k_is)
end
