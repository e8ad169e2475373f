import PyProof.Rows.All
import PyProof.P3Statements
import PyProof.EqLayable
import PyProof.ReprReads
import Wide.All
import OpenK.AllK
import Wide.FinOn
import HandS.ForMost
import HandS.Exc
import HandS.TryOnly
import HandS.ExcOwn
import HandS.WordsExc
import HandS.Defaults
import HandS.Wide
import HandS.Gcd
import HandS.TupAny
import HandS.TupMul
import HandS.Star
import HandS.Deep
import HandS.Flow
import HandS.Style
import HandS.Zip
import HandS.More
import HandS.Lambda
import HandS.HeadHook4
import HandS.Slots
import HandS.SlotsOwn
import HandS.IsInst
import KE.GoesMore
import HandS.Base
import HandS.Call
import HandS.List
import HandS.Iter
import HandS.HeadWalk
import HandS.CallRecv
import KE.KUnpackStar
import HandS.Conv
import HandS.ExcField
import HandS.TryMany
import KE.KExcSuper
import KE.KExcInit
import HandS.Head0
import HandS.Head1
import HandS.Head2
import HandS.HeadEnd
import HandS.HeadHook1
import HandS.HeadHook2
import HandS.EndBits
import PyProof.FitsInt
import PyProof.StrLawsRepr
import HandS.Head3
import PySem.Challenge.RW_leastburn_k48_errors_of_lies
set_option linter.all false
set_option maxRecDepth 100000
/-! Zw0: a small interpreter of the Python that the linked texts use: values as trees, a store for what callees change. -/
namespace Zw
open PySem
/-- a value as a tree -/
inductive D where
  | non | bl (b : Bool) | int (i : Int) | str (s : Str)
  | tup (xs : List D) | lst (xs : List D)
  /-- an instance of the class named x, its slots -/
  | ins (x : Str) (fs : List D)
  /-- a new dict, nothing in it -/
  | dic
  /-- range(a, b), as a value -/
  | rng (a b : Int)
  /-- a dict that nobody changes: its keys (ints, texts), its values -/
  | dct (ks vs : List D)
  deriving Inhabited
mutual
def D.py : D → PyData
  | .non => .none
  | .bl b => .bool b
  | .int i => .int i
  | .str s => .str s
  | .tup xs => .tuple (D.pys xs)
  | .lst xs => .list (D.pys xs)
  | .ins _ _ => .none
  | .dic => .none
  | .rng _ _ => .none
  | .dct _ _ => .none
def D.pys : List D → List PyData
  | [] => []
  | x :: xs => x.py :: D.pys xs
end
mutual
/-- no instance within -/
def D.plain : D → Bool
  | .non => true
  | .bl _ => true
  | .int _ => true
  | .str _ => true
  | .tup xs => D.plains xs
  | .lst xs => D.plains xs
  | .ins _ _ => false
  | .dic => false
  | .rng _ _ => false
  | .dct _ _ => false
def D.plains : List D → Bool
  | [] => true
  | x :: xs => x.plain && D.plains xs
end
/-- what a slot holds, what an expression gives: a tree; a fresh list of one's own; a list that may be looked at alone; the script; a place of the store -/
inductive B where
  | t (d : D) | own (d : D) | bor (d : D) | sc (d : D) | r (k : Nat)
  deriving Inhabited
/-- what an object holds: a tree, or the place of a list -/
inductive FB where
  | t (d : D) | r (k : Nat)
  deriving Inhabited
inductive O where
  | lst (xs : List D)
  /-- an instance of the class named x that methods change; its lists have places of their own, ahead of it -/
  | obj (x : Str) (fs : List FB)
  deriving Inhabited
def O.isL : O → Bool
  | .lst _ => true
  | _ => false
abbrev Store := List O
abbrev Env := List (Option B)
inductive R (α : Type) where
  | ok (a : α) (s : Store)
  | ex (c : Nat) (p : List D) (s : Store)
  | bad
inductive RS where
  | nx (ρ : Env) (s : Store)
  | rt (b : B) (s : Store)
  | bk (ρ : Env) (s : Store)
  | ct (ρ : Env) (s : Store)
  | ex (c : Nat) (p : List D) (ρ : Env) (s : Store)
  /-- given back: trees, and objects of one's own; all of them as a tuple, or the one -/
  | ro (es : List FB) (w : Bool) (s : Store)
  | bad
def R.bind {α β : Type} (x : R α) (f : α → Store → R β) : R β := match x with
  | .ok a s => f a s
  | .ex c p s => .ex c p s
  | .bad => .bad
def R.to {α : Type} (x : R α) (ρ : Env) (f : α → Store → RS) : RS := match x with
  | .ok a s => f a s
  | .ex c p s => .ex c p ρ s
  | .bad => .bad
def R.of {α : Type} (o : Option α) (s : Store) : R α := match o with
  | some a => .ok a s
  | none => .bad
def B.frz : B → Option D
  | .t d => some d
  | .own d => some d
  | _ => none
def B.peek (s : Store) : B → Option D
  | .t d => some d
  | .own d => some d
  | .bor d => some d
  | .sc _ => none
  | .r k => match s[k]? with
    | some (.lst xs) => some (.lst xs)
    | _ => none
/-- what may be looked at, the script too -/
def B.look (s : Store) : B → Option D
  | .sc d => some d
  | b => b.peek s
def B.still : B → B
  | .own d => .t d
  | b => b
/-- what a name may be given -/
def B.give : B → Option B
  | .t d => some (.t d)
  | .own d => some (.own d)
  | _ => none
def line : Nat := 16777216
/-! ### operators -/
inductive Op2 where
  | add | sub | mul | mod | fdiv | pow
  deriving DecidableEq
inductive Cm where
  | eq | ne | lt | le | gt | ge | isN | notN | in_ | notIn
  deriving DecidableEq
def D.tru : D → Option Bool
  | .non => some false
  | .bl b => some b
  | .int i => some (i != 0)
  | .str s => if s.length ≤ line then some (s.length != 0) else none
  | .tup xs => some (!xs.isEmpty)
  | .lst xs => some (!xs.isEmpty)
  | .ins _ _ => none
  | .dic => none
  | .rng _ _ => none
  | .dct _ _ => none
def mulOk (i j : Int) : Bool := decide (i.natAbs.log2 + j.natAbs.log2 < 1000000)
def powOk (i j : Int) : Bool := decide (0 ≤ j) && decide (((i.natAbs.log2 + 1 : Nat) : Int) * j ≤ 134217728)
def opAdd : D → D → Option B
  | .int i, .int j => some (.t (.int (i + j)))
  | .str x, .str y => if x.length + y.length ≤ line then some (.t (.str (x ++ y))) else none
  | .lst xs, .lst ys => if xs.length + ys.length ≤ line then some (.own (.lst (xs ++ ys))) else none
  | .tup xs, .tup ys => if xs.length + ys.length ≤ line then some (.t (.tup (xs ++ ys))) else none
  | _, _ => none
def opSub : D → D → Option B
  | .int i, .int j => some (.t (.int (i - j)))
  | _, _ => none
def opMul : D → D → Option B
  | .int i, .int j => if mulOk i j then some (.t (.int (i * j))) else none
  | .lst xs, .int k => if k < 2 ^ 40 ∧ -(2 ^ 40) < k ∧ xs.length * k.toNat ≤ line then some (.own (.lst (List.replicate k.toNat xs).flatten)) else none
  | .tup xs, .int k => if xs.length ≠ 0 ∧ 2 ≤ k ∧ k ≤ 1000 ∧ xs.length ≤ 1000 then some (.t (.tup (List.replicate k.toNat xs).flatten)) else none
  | _, _ => none
def opMod : D → D → Option B
  | .int i, .int j => if 0 < j then some (.t (.int (i % j))) else none
  | _, _ => none
def opFdiv : D → D → Option B
  | .int i, .int j => if 0 < j ∧ j.natAbs.log2 < 9000 then some (.t (.int (i / j))) else none
  | _, _ => none
def opPow : D → D → Option B
  | .int i, .int j => if powOk i j then some (.t (.int (i ^ j.toNat))) else none
  | _, _ => none
def op2 : Op2 → D → D → Option B
  | .add => opAdd
  | .sub => opSub
  | .mul => opMul
  | .mod => opMod
  | .fdiv => opFdiv
  | .pow => opPow
def strs2 : D → D → Bool
  | .str _, .str _ => true
  | _, _ => false
def eqOk (a b : D) : Bool := strs2 a b || a.plain && b.plain && SeqAt.shaped a.py && SeqAt.shaped b.py
def eqB (a b : D) : Bool := PyData.eqv a.py b.py
def D.flat : D → Bool
  | .non => true
  | .bl _ => true
  | .int _ => true
  | .str _ => true
  | _ => false
def intsOf : List D → Option (List Int)
  | [] => some []
  | .int i :: r => (intsOf r).map (i :: ·)
  | _ => none
def lexLt : List Int → List Int → Bool
  | [], [] => false
  | [], _ :: _ => true
  | _ :: _, [] => false
  | x :: xs, y :: ys => if x = y then lexLt xs ys else decide (x < y)
/-- a key: an int, a text -/
def keyOk : D → Bool
  | .int _ => true
  | .str _ => true
  | _ => false
def keyEq : D → D → Bool
  | .int i, .int j => decide (i = j)
  | .str x, .str y => decide (x = y)
  | _, _ => false
/-- what a dict holds for a key -/
def dctGet (a : D) : List D → List D → Option D
  | k :: ks, v :: vs => if keyEq k a then some v else dctGet a ks vs
  | _, _ => none
def memOk (a : D) (xs : List D) : Bool := a.flat && xs.all D.flat
def memB (a : D) (xs : List D) : Bool := xs.any fun y => eqB y a
def cmLt : D → D → Option Bool
  | .int i, .int j => some (decide (i < j))
  | .tup xs, .tup ys => match intsOf xs, intsOf ys with
    | some ns, some ms => some (lexLt ns ms)
    | _, _ => none
  | _, _ => none
def cmI (p : Int → Int → Bool) : D → D → Option Bool
  | .int i, .int j => some (p i j)
  | _, _ => none
def D.isNon : D → Bool
  | .non => true
  | _ => false
def D.isBl (k : Bool) : D → Bool
  | .bl j => j == k
  | _ => false
def cmN (k : Bool) : D → D → Option Bool
  | a, .non => some (a.isNon == k)
  | a, .bl j => some (a.isBl j == k)
  | _, _ => none
def cmIn (k : Bool) (a : D) : D → Option Bool
  | .lst xs => if memOk a xs then some (memB a xs == k) else none
  | .tup xs => if memOk a xs then some (memB a xs == k) else none
  | .dct ks vs => if keyOk a then some ((dctGet a ks vs).isSome == k) else none
  | _ => none
def cmp2 : Cm → D → D → Option Bool
  | .eq => fun a b => if eqOk a b then some (eqB a b) else none
  | .ne => fun a b => if eqOk a b then some (!eqB a b) else none
  | .lt => cmLt
  | .le => cmI fun i j => decide (i ≤ j)
  | .gt => cmI fun i j => decide (j < i)
  | .ge => cmI fun i j => decide (j ≤ i)
  | .isN => cmN true
  | .notN => cmN false
  | .in_ => cmIn true
  | .notIn => cmIn false
/-! ### places, slices -/
def ixN (n : Nat) (i : Int) : Option Nat := if 0 ≤ i then (if i < n then some i.toNat else none) else if -(n : Int) ≤ i then some (i + n).toNat else none
def ixD {α : Type} (xs : List α) (i : Int) : Option α := (ixN xs.length i).bind fun j => xs[j]?
def sIx (n d : Nat) : Option Int → Nat
  | none => d
  | some v => if v < 0 then (v + n).toNat else min v.toNat n
def cut {α : Type} (xs : List α) (lo hi : Option Int) : List α := (xs.drop (sIx xs.length 0 lo)).take (sIx xs.length xs.length hi - sIx xs.length 0 lo)
def intO : Option D → Option (Option Int)
  | none => some none
  | some (.int i) => some (some i)
  | _ => none
def slice (d : D) (lo hi : Option Int) : Option B := match d with
  | .tup xs => some (.t (.tup (cut xs lo hi)))
  | .lst xs => some (.own (.lst (cut xs lo hi)))
  | _ => none
/-! ### built-ins -/
inductive Ty where
  | int | bool | tuple | list | str | dict | cls (x : Str)
  deriving DecidableEq
def isTy : Ty → D → Bool
  | .int, .int _ => true
  | .int, .bl _ => true
  | .bool, .bl _ => true
  | .tuple, .tup _ => true
  | .list, .lst _ => true
  | .str, .str _ => true
  | .dict, .dic => true
  | .dict, .dct _ _ => true
  | .cls x, .ins y _ => decide (x = y)
  | _, _ => false
inductive Bi where
  | len | abs | max2 | min2 | int | all | any | repr | tuple | list | sum | gcd | isi (ty : Ty)
  deriving DecidableEq
def blsOf : List D → Option (List Bool)
  | [] => some []
  | .bl b :: r => (blsOf r).map (b :: ·)
  | _ => none
/-- what repr may be asked of -/
def reprOk (d : D) : Bool := d.plain && d.py.showable && decide (d.py.depth ≤ 64) && decide (d.py.shown.length ≤ line)
def biLen : D → Option B
  | .tup xs => some (.t (.int xs.length))
  | .lst xs => some (.t (.int xs.length))
  | .str s => if s.length ≤ line then some (.t (.int s.length)) else none
  | _ => none
def biAbs : D → Option B
  | .int i => some (.t (.int (if i < 0 then -i else i)))
  | _ => none
def biInt : D → Option B
  | .int i => some (.t (.int i))
  | .bl b => some (.t (.int (if b then 1 else 0)))
  | _ => none
def biAll (f : List Bool → Bool) : D → Option B
  | .lst xs => (blsOf xs).map fun bs => .t (.bl (f bs))
  | _ => none
def biTuple : D → Option B
  | .tup xs => some (.t (.tup xs))
  | .lst xs => some (.t (.tup xs))
  | _ => none
def biList : D → Option B
  | .tup xs => some (.own (.lst xs))
  | .lst xs => some (.own (.lst xs))
  | _ => none
def biSum : D → Option B
  | .lst xs => (intsOf xs).map fun ns => .t (.int ns.sum)
  | _ => none
/-- isinstance; of an instance of another class nothing is said -/
def isiD : Ty → D → Option B
  | .cls x, .ins y _ => if x = y then some (.t (.bl true)) else none
  | _, .rng _ _ => none
  | ty, d => some (.t (.bl (isTy ty d)))
def bi1 : Bi → D → Option B
  | .len => biLen
  | .abs => biAbs
  | .int => biInt
  | .all => biAll fun bs => bs.all id
  | .any => biAll fun bs => bs.any id
  | .repr => fun d => if reprOk d then some (.t (.str d.py.shown)) else none
  | .tuple => biTuple
  | .list => biList
  | .sum => biSum
  | .isi ty => isiD ty
  | _ => fun _ => none
def bi2I (f : Int → Int → Int) : D → D → Option B
  | .int i, .int j => some (.t (.int (f i j)))
  | _, _ => none
def bi2 : Bi → D → D → Option B
  | .max2 => bi2I fun i j => if j > i then j else i
  | .min2 => bi2I fun i j => if j < i then j else i
  | .gcd => bi2I fun i j => (Int.gcd i j : Nat)
  | _ => fun _ _ => none
/-! ### the core -/
inductive Tg where
  | nm (i : Nat)
  | tup (ts : List Tg)
mutual
def bindT : Tg → D → Env → Option Env
  | .nm i, d, ρ => some (ρ.set i (some (.t d)))
  | .tup ts, .tup xs, ρ => bindTs ts xs ρ
  | .tup _, _, _ => none
def bindTs : List Tg → List D → Env → Option Env
  | [], [], ρ => some ρ
  | t :: ts, x :: xs, ρ => (bindT t x ρ).bind (bindTs ts xs)
  | _, _, _ => none
end
inductive CE where
  | var (i : Nat)
  | cst (d : D)
  | gc (g : Nat)
  | bin (op : Op2) (a b : CE)
  | neg (a : CE)
  | notv (a : CE)
  | andv (es : List CE)
  | orv (es : List CE)
  | cmp (op : Cm) (a b : CE)
  | chain (o1 o2 : Cm) (a b c : CE)
  | ife (c a b : CE)
  | tup (es : List (Bool × CE))
  | lst (es : List (Bool × CE))
  | ix (a b : CE)
  | sl (a : CE) (lo hi : Option CE)
  | call (f : Nat) (es : List CE)
  | b1 (f : Bi) (a : CE)
  | b2 (f : Bi) (a b : CE)
  | comp (kind : Nat) (its : List CE) (tg : Tg) (own : List Nat) (conds : List CE) (elt : CE)
  /-- f(lambda: e) -/
  | tell (t : Nat) (e : CE)
  /-- e.f, the slot i of an instance of the class x -/
  | att (x : Str) (i : Nat) (e : CE)
  | dic
  /-- the place of the first item of e that f does not hold of; f a def, or a lambda -/
  | oddF (o : Nat) (e : CE) (f : Nat)
  | oddL (o : Nat) (e body : CE)
  /-- e.m(es), m a method of the class x: the thing numbered f -/
  | meth (x : Str) (f : Nat) (e : CE) (es : List CE)
  /-- range(e), as a value -/
  | rngv (e : CE)
  /-- a dict as it is written -/
  | dct (kvs : List (Bool × CE))
  /-- list(range(a)), tuple(range(a)) (t); of two ends -/
  | lrg1 (t : Bool) (a : CE)
  | lrg2 (t : Bool) (a b : CE)
  /-- a in G (k), a not in G, G a dict of the module; G[a] -/
  | gin (k : Bool) (a : CE) (g : Nat)
  | gix (g : Nat) (a : CE)
/-- what is walked: kind 0: items of a value, 1: range(n), 2: range(a, b), 3: enumerate(x), 4: zip(x, y) -/
def itemsD : D → Option (List D)
  | .tup xs => some xs
  | .lst xs => some xs
  | _ => none
def rangeD (lo hi : Int) : Option (List D) :=
  if -(2 ^ 62) ≤ lo ∧ lo < 2 ^ 62 ∧ -(2 ^ 62) ≤ hi ∧ hi < 2 ^ 62 then some ((List.range (hi - lo).toNat).map fun (k : Nat) => D.int (lo + (k : Int))) else none
/-- range(a, b, -1) -/
def downD (a b : Int) : Option (List D) :=
  if -(2 ^ 62) ≤ a ∧ a < 2 ^ 62 ∧ -(2 ^ 62) ≤ b ∧ b < 2 ^ 62 then some ((List.range (a - b).toNat).map fun (k : Nat) => D.int (a + (k : Int) * (-1))) else none
def enumD (xs : List D) : List D := xs.zipIdx.map fun p => .tup [.int p.2, p.1]
def zipD (xs ys : List D) : List D := (xs.zip ys).map fun p => .tup [p.1, p.2]
/-- two lists, two tuples -/
def zipS : D → D → Option (List D)
  | .tup xs, .tup ys => some (zipD xs ys)
  | .lst xs, .lst ys => some (zipD xs ys)
  | .tup xs, .lst ys => some (zipD xs ys)
  | _, _ => none
def walk : Nat → List D → Option (List D)
  | 0, [.rng a b] => rangeD a b
  | 0, [d] => itemsD d
  | 1, [.int n] => rangeD 0 n
  | 2, [.int a, .int b] => rangeD a b
  | 3, [d] => (itemsD d).map enumD
  | 4, [d, e] => zipS d e
  | 5, [.int a, .int b, .int c] => if c = -1 then downD a b else none
  | _, _ => none
/-- what a walk may go over: no place of the store -/
def B.seen : B → Option D
  | .t d => some d
  | .own d => some d
  | .bor d => some d
  | .sc d => some d
  | .r _ => none
def seens : List B → Option (List D)
  | [] => some []
  | b :: r => b.seen.bind fun d => (seens r).map (d :: ·)
def frzs : List B → Option (List D)
  | [] => some []
  | b :: r => b.frz.bind fun d => (frzs r).map (d :: ·)
/-- all turns of a comprehension -/
def compL (f : D → Store → R (Option D)) : List D → List D → Store → R (List D)
  | [], acc, s => .ok acc s
  | x :: xs, acc, s => match f x s with
    | .ok (some d) s' => if acc.length < line then compL f xs (acc ++ [d]) s' else .bad
    | .ok none s' => compL f xs acc s'
    | _ => .bad
def wipe (ρ : Env) : List Nat → Env
  | [] => ρ
  | i :: is => (wipe ρ is).set i none
/-! ### calls -/
def B.ref? : B → Option Nat
  | .r k => some k
  | _ => none
def renum : List B → Nat → List B
  | [], _ => []
  | .r _ :: r, n => .r n :: renum r (n + 1)
  | b :: r, n => b :: renum r n
def O.lst? : O → Option O
  | .lst xs => some (.lst xs)
  | _ => none
def getAll (s : Store) : List Nat → Option (List O)
  | [] => some []
  | k :: r => (s[k]?.bind O.lst?).bind fun o => (getAll s r).map (o :: ·)
def putAll (s : Store) : List Nat → List O → Store
  | [], _ => s
  | _ :: _, [] => s
  | k :: ks, o :: os => putAll (s.set k o) ks os
def callS (F : List B → Store → R B) (args : List B) (s : Store) : R B :=
  let ks := args.filterMap B.ref?
  if ks.Nodup then
    match getAll s ks with
    | some os => match F (renum args 0) os with
      | .ok b os' => match b.give, os'.all O.isL with
        | some b, true => .ok b (putAll s ks os')
        | _, _ => .bad
      | .ex c p os' => if os'.all O.isL then .ex c p (putAll s ks os') else .bad
      | .bad => .bad
    | none => .bad
  else .bad
/-- a call that may see all of the store -/
def callW (F : List B → Store → R B) (args : List B) (s : Store) : R B := match F args s with
  | .ok b s' => match b.give with
    | some b => .ok b s'
    | none => .bad
  | .ex c p s' => .ex c p s'
  | .bad => .bad
/-- an instance of the class x -/
def isOb (x : Str) (b : B) (s : Store) : Bool := match b with
  | .t (.ins y _) => decide (x = y)
  | .r k => match s[k]? with
    | some (.obj y _) => decide (x = y)
    | _ => false
  | _ => false
def obAt (x : Str) (k : Nat) (s : Store) : Option (List FB) := match s[k]? with
  | some (.obj y fs) => if x = y then some fs else none
  | _ => none
def FB.b : FB → B
  | .t d => .t d
  | .r k => .r k
/-- what a class call makes: trees and lists -/
def obB : B → Option (Bool × D)
  | .t d => some (false, d)
  | .own (.lst xs) => some (true, .lst xs)
  | _ => none
/-- the lists' places from n on -/
def layF : List (Bool × D) → Nat → List FB
  | [], _ => []
  | (true, _) :: r, n => .r n :: layF r (n + 1)
  | (false, d) :: r, n => .t d :: layF r n
def layL : List (Bool × D) → List O
  | [] => []
  | (true, .lst xs) :: r => .lst xs :: layL r
  | (true, _) :: r => .lst [] :: layL r
  | (false, _) :: r => layL r
/-- a def that calls the thing that it gets, first of all: whether it answers what that answers; the clauses, each with what it answers; what it answers at last -/
inductive TR where
  | d (x : D)
  /-- a tuple; none: what the exception keeps -/
  | tup (xs : List (Option D))
  /-- (x, repr of what the exception keeps) -/
  | tupR (x : D)
  /-- s + repr of what the exception keeps -/
  | catR (s : Str)
/-- the text of what the exception keeps -/
def rpD : List D → Option Str
  | [q] => if reprOk q then some q.py.shown else none
  | _ => none
def trL (p : List D) : List (Option D) → Option (List D)
  | [] => some []
  | some d :: r => (trL p r).map (d :: ·)
  | none :: r => match p with
    | [q] => (trL p r).map (q :: ·)
    | _ => none
def TR.ev (p : List D) : TR → Option D
  | .d x => some x
  | .tup xs => (trL p xs).map .tup
  | .tupR x => (rpD p).map fun t => .tup [x, .str t]
  | .catR s => (rpD p).bind fun t => if s.length + t.length ≤ line then some (.str (s ++ t)) else none
structure Tl where
  hs : List (Nat × TR)
  fin : TR
  /-- what is answered is told beside this -/
  told : Option D := none
def tlFind (sub : Nat → Nat → Bool) (c : Nat) : List (Nat × TR) → Option TR
  | [] => none
  | (h, d) :: r => if sub c h then some d else tlFind sub c r
def tellR (sub : Nat → Nat → Bool) (t : Tl) : R B → R B
  | .ok b s => match t.told with
    | none => .of ((t.fin.ev []).map .t) s
    | some x => .of (b.frz.map fun d => .t (.tup [x, d])) s
  | .ex c p s => .of (((tlFind sub c t.hs).bind (TR.ev p)).map .t) s
  | .bad => .bad
/-- the place of the first one that p does not hold of -/
def oddR (p : D → Store → R B) : List D → Nat → Store → R B
  | [], _, s => .ok (.t .non) s
  | x :: xs, n, s => match p x s with
    | .ok (.t (.bl true)) s' => oddR p xs (n + 1) s'
    | .ok (.t (.bl false)) s' => .ok (.t (.int n)) s'
    | _ => .bad
/-- the functions, the module's constants -/
structure Gx where
  fn : Nat → List B → Store → R B
  gc : Nat → Option D
  /-- the functions two calls further down -/
  fn2 : Nat → List B → Store → R B := fun _ _ _ => .bad
  /-- is the first class the second, or below it -/
  sub : Nat → Nat → Bool := fun _ _ => false
  tl : Nat → Option Tl := fun _ => none
  /-- two calls further down may be asked -/
  od : Bool := false
  /-- the classes whose instances change: the name, what a call of it makes -/
  ob : Nat → Option (Str × (List B → Store → R (List (Bool × D)))) := fun _ => none
  /-- the module's dicts -/
  gd : Nat → Option (List Str × List D) := fun _ => none
def Gx.low (G : Gx) : Gx := ⟨G.fn2, G.gc, fun _ _ _ => .bad, G.sub, fun _ => none, false, fun _ => none, G.gd⟩
/-- what a dict of the module holds -/
def gdGet (z : Str) : List Str → List D → Option D
  | k :: ks, v :: vs => if k = z then some v else gdGet z ks vs
  | _, _ => none
/-- the ints a .. b - 1 -/
def rgD (a b : Int) : List D := (List.range (b - a).toNat).map fun (i : Nat) => D.int (a + (i : Nat))
def lrgR (t : Bool) (a b : Int) (s : Store) : R B := if -(2 ^ 62) ≤ a ∧ a < 2 ^ 62 ∧ -(2 ^ 62) ≤ b ∧ b < 2 ^ 62 ∧ (b - a).toNat ≤ 2 ^ 24 then .ok (if t then .t (.tup (rgD a b)) else .own (.lst (rgD a b))) s else .bad
def readV : Option (Option B) → Option B
  | some (some (.own d)) => some (.bor d)
  | some (some b) => some b
  | _ => none
def B.bl? : B → Option Bool
  | .t (.bl b) => some b
  | _ => none
def truB (b : B) (s : Store) : Option Bool := (b.look s).bind D.tru
/-- keys, what they hold: keys apart -/
def dctOf : List D → Option (List D × List D)
  | [] => some ([], [])
  | k :: v :: r => (dctOf r).bind fun p => if keyOk k && !(p.1.any fun j => keyEq j k) then some (k :: p.1, v :: p.2) else none
  | _ => none
mutual
def ev : Gx → CE → Env → Store → R B
  | G, .var i, ρ, s => .of (readV ρ[i]?) s
  | G, .cst d, _, s => .ok (.t d) s
  | G, .gc g, _, s => .of ((G.gc g).map .t) s
  | G, .bin op a b, ρ, s => (ev G a ρ s).bind fun x s => (ev G b ρ s).bind fun y s =>
      .of ((x.peek s).bind fun x => (y.peek s).bind fun y => op2 op x y) s
  | G, .neg a, ρ, s => (ev G a ρ s).bind fun x s => match x with
      | .t (.int i) => .ok (.t (.int (-i))) s
      | _ => .bad
  | G, .notv a, ρ, s => (ev G a ρ s).bind fun x s => .of ((truB x s).map fun b => .t (.bl (!b))) s
  | G, .andv es, ρ, s => evAnd G es ρ s
  | G, .orv es, ρ, s => evOr G es ρ s
  | G, .cmp op a b, ρ, s => (ev G a ρ s).bind fun x s => (ev G b ρ s).bind fun y s =>
      .of ((x.peek s).bind fun x => (y.peek s).bind fun y => (cmp2 op x y).map fun b => .t (.bl b)) s
  | G, .chain o1 o2 a b c, ρ, s => (ev G a ρ s).bind fun x s => (ev G b ρ s).bind fun y s =>
      match (x.peek s).bind fun x => (y.peek s).bind fun y => cmp2 o1 x y with
      | some true => (ev G c ρ s).bind fun z s => .of ((y.peek s).bind fun y => (z.peek s).bind fun z => (cmp2 o2 y z).map fun b => .t (.bl b)) s
      | some false => .ok (.t (.bl false)) s
      | none => .bad
  | G, .ife c a b, ρ, s => (ev G c ρ s).bind fun x s => match truB x s with
      | some true => ev G a ρ s
      | some false => ev G b ρ s
      | none => .bad
  | G, .tup es, ρ, s => (evs G es ρ s).bind fun xs s => if xs.length ≤ line then .ok (.t (.tup xs)) s else .bad
  | G, .lst es, ρ, s => (evs G es ρ s).bind fun xs s => if xs.length ≤ line then .ok (.own (.lst xs)) s else .bad
  | G, .ix a b, ρ, s => (ev G a ρ s).bind fun x s => (ev G b ρ s).bind fun y s => match x.look s, y with
      | some (.tup xs), .t (.int i) => .of ((ixD xs i).map .t) s
      | some (.lst xs), .t (.int i) => .of ((ixD xs i).map .t) s
      | some (.dct ks vs), .t k => if keyOk k then .of ((dctGet k ks vs).map .t) s else .bad
      | _, _ => .bad
  | G, .sl a lo hi, ρ, s => (ev G a ρ s).bind fun x s => (evO G lo ρ s).bind fun lo s => (evO G hi ρ s).bind fun hi s =>
      .of ((x.look s).bind fun d => slice d lo hi) s
  | G, .call f es, ρ, s => (evl G es ρ s).bind fun bs s => callS (G.fn f) bs s
  | G, .b1 f a, ρ, s => (ev G a ρ s).bind fun x s => .of ((x.look s).bind (bi1 f)) s
  | G, .b2 f a b, ρ, s => (ev G a ρ s).bind fun x s => (ev G b ρ s).bind fun y s => .of ((x.peek s).bind fun x => (y.peek s).bind (bi2 f x)) s
  | G, .comp kind its tg own conds elt, ρ, s => (evl G its ρ s).bind fun bs s =>
      match (seens bs).bind (walk kind) with
      | none => .bad
      | some xs => (compL (fun x s => match bindT tg x (wipe ρ own) with
          | none => .bad
          | some ρ' => (evConds G conds ρ' s).bind fun k s => if k then (ev G elt ρ' s).bind fun b s => .of (b.frz.map some) s else .ok none s) xs [] s).bind fun ys s => .ok (.own (.lst ys)) s
  | G, .tell t e, ρ, s => match G.tl t with
      | some tl => tellR G.sub tl (ev G.low e ρ s)
      | none => .bad
  | _, .dic, _, s => .ok (.t .dic) s
  | G, .att x i e, ρ, s => (ev G e ρ s).bind fun b s => match b with
      | .t (.ins y fs) => if x = y then .of (fs[i]?.map .t) s else .bad
      | .r k => .of ((obAt x k s).bind fun fs => fs[i]?.map FB.b) s
      | _ => .bad
  | G, .meth x f e es, ρ, s => (ev G e ρ s).bind fun b s => if isOb x b s then (evl G es ρ s).bind fun bs s => callW (G.fn f) (b :: bs) s else .bad
  | G, .rngv e, ρ, s => (ev G e ρ s).bind fun b s => match b with
      | .t (.int n) => .ok (.t (.rng 0 n)) s
      | _ => .bad
  | G, .dct es, ρ, s => (evs G es ρ s).bind fun xs s => match dctOf xs with
      | some (ks, vs) => if ks.length ≤ 15 then .ok (.t (.dct ks vs)) s else .bad
      | none => .bad
  | G, .lrg1 t a, ρ, s => (ev G a ρ s).bind fun b s => match b with
      | .t (.int n) => lrgR t 0 n s
      | _ => .bad
  | G, .lrg2 t a c, ρ, s => (ev G a ρ s).bind fun x s => (ev G c ρ s).bind fun y s => match x, y with
      | .t (.int i), .t (.int j) => lrgR t i j s
      | _, _ => .bad
  | G, .gin k a g, ρ, s => (ev G a ρ s).bind fun b s => match b, G.gd g with
      | .t (.str z), some (ks, vs) => .ok (.t (.bl ((gdGet z ks vs).isSome == k))) s
      | _, _ => .bad
  | G, .gix g a, ρ, s => (ev G a ρ s).bind fun b s => match b, G.gd g with
      | .t (.str z), some (ks, vs) => .of ((gdGet z ks vs).map .t) s
      | _, _ => .bad
  | G, .oddF _ e f, ρ, s => (ev G e ρ s).bind fun b s => match b with
      | .t d => match itemsD d with
        | some xs => if G.od then oddR (fun x s => G.fn2 f [.t x] s) xs 0 s else .bad
        | none => .bad
      | _ => .bad
  | G, .oddL _ e body, ρ, s => (ev G e ρ s).bind fun b s => match b with
      | .t d => match itemsD d with
        | some xs => if G.od then oddR (fun x s => ev G.low body (ρ ++ [some (.t x)]) s) xs 0 s else .bad
        | none => .bad
      | _ => .bad
def evl : Gx → List CE → Env → Store → R (List B)
  | G, [], _, s => .ok [] s
  | G, e :: es, ρ, s => (ev G e ρ s).bind fun x s => (evl G es ρ s).bind fun xs s => .ok (x.still :: xs) s
def evs : Gx → List (Bool × CE) → Env → Store → R (List D)
  | G, [], _, s => .ok [] s
  | G, (st, e) :: es, ρ, s => (ev G e ρ s).bind fun x s => match st with
      | false => match x.frz with
        | some d => (evs G es ρ s).bind fun xs s => .ok (d :: xs) s
        | none => .bad
      | true => match (x.look s).bind itemsD with
        | some ds => (evs G es ρ s).bind fun xs s => .ok (ds ++ xs) s
        | none => .bad
def evO : Gx → Option CE → Env → Store → R (Option Int)
  | G, none, _, s => .ok none s
  | G, some e, ρ, s => (ev G e ρ s).bind fun x s => match x with
      | .t (.int i) => .ok (some i) s
      | _ => .bad
def evAnd : Gx → List CE → Env → Store → R B
  | G, [], _, _ => .bad
  | G, [e], ρ, s => ev G e ρ s
  | G, e :: es, ρ, s => (ev G e ρ s).bind fun x s => match truB x s with
      | some true => evAnd G es ρ s
      | some false => .ok x s
      | none => .bad
def evOr : Gx → List CE → Env → Store → R B
  | G, [], _, _ => .bad
  | G, [e], ρ, s => ev G e ρ s
  | G, e :: es, ρ, s => (ev G e ρ s).bind fun x s => match truB x s with
      | some false => evOr G es ρ s
      | some true => .ok x s
      | none => .bad
def evConds : Gx → List CE → Env → Store → R Bool
  | G, [], _, s => .ok true s
  | G, e :: es, ρ, s => (ev G e ρ s).bind fun x s => match truB x s with
      | some true => evConds G es ρ s
      | some false => .ok false s
      | none => .bad
end
/-- one turn of a comprehension -/
def turnC (G : Gx) (tg : Tg) (own : List Nat) (conds : List CE) (elt : CE) (ρ : Env) (x : D) (s : Store) : R (Option D) := match bindT tg x (wipe ρ own) with
  | none => .bad
  | some ρ' => (evConds G conds ρ' s).bind fun k s => if k then (ev G elt ρ' s).bind fun b s => .of (b.frz.map some) s else .ok none s
/-- the right sides of a, b = x, y -/
def evg (G : Gx) : List CE → Env → Store → R (List B)
  | [], _, s => .ok [] s
  | e :: es, ρ, s => (ev G e ρ s).bind fun x s => (evg G es ρ s).bind fun xs s => .ok (x :: xs) s
/-- a test -/
def evT (G : Gx) (e : CE) (ρ : Env) (s : Store) : R Bool := (ev G e ρ s).bind fun x s => .of (truB x s) s
/-! ### statements -/
inductive CS where
  | pass
  | never
  | raise (c : Nat)
  /-- raise C(e) -/
  | raise1 (c : Nat) (e : CE)
  | expr (e : CE)
  | asg (i : Nat) (e : CE)
  | asgT (t : Tg) (e : CE)
  | par (is : List Nat) (es : List CE)
  | aug (i : Nat) (op : Op2) (e : CE)
  | setIx (i : Nat) (ix e : CE)
  | app (i : Nat) (e : CE)
  | ext (i : Nat) (e : CE)
  | ret (e : CE)
  | retN
  | ite (c : CE) (a b : List CS)
  | for_ (cutS : Bool) (kind : Nat) (its : List CE) (tg : Tg) (body : List CS)
  | while_ (c : CE) (body : List CS)
  | brk
  | cont
  /-- an owned list is known to stand still from here on -/
  | frz (i : Nat)
  /-- an owned list goes to the store -/
  | mv (i : Nat)
  /-- x, is.. = C(args), es.. (is empty: x = C(args)) -/
  | newP (i c : Nat) (args : List CE) (is : List Nat) (es : List CE)
  /-- objects given back, beside other things (w), or one alone -/
  | retO (w : Bool) (es : List CE)
  /-- x.f op= e -/
  | augAtt (i : Nat) (x : Str) (f : Nat) (op : Op2) (e : CE)
  /-- x, *y = e -/
  | unpS (i j : Nat) (e : CE)
  /-- x[k1], x[k2] = e -/
  | swp (i : Nat) (k1 k2 e : CE)
def still (ρ : Env) : Env := ρ.map fun o => o.map B.still
/-- places of the store from n on are forgotten -/
def B.below (n : Nat) : B → Option B
  | .r k => if k < n then some (.r k) else none
  | b => some b
def cutE (n : Nat) (ρ : Env) : Env := ρ.map fun o => o.bind (B.below n)
/-- objects of one's own become trees -/
def fbD (n : Nat) (s : Store) : FB → Option D
  | .t d => some d
  | .r j => if n ≤ j then match s[j]? with
    | some (.lst xs) => some (.lst xs)
    | _ => none
    else none
def fbDs (n : Nat) (s : Store) : List FB → Option (List D)
  | [] => some []
  | f :: r => (fbD n s f).bind fun d => (fbDs n s r).map (d :: ·)
def roD (n : Nat) (s : Store) : FB → Option D
  | .t d => some d
  | .r k => if n ≤ k then match s[k]? with
    | some (.obj x fs) => (fbDs n s fs).map (.ins x)
    | _ => none
    else none
def roDs (n : Nat) (s : Store) : List FB → Option (List D)
  | [] => some []
  | f :: r => (roD n s f).bind fun d => (roDs n s r).map (d :: ·)
def roW (w : Bool) (ds : List D) : Option D := if w then (if ds.length ≤ line then some (.tup ds) else none) else match ds with
  | [d] => some d
  | _ => none
def cutAt (c : Bool) (n : Nat) (f : Env → Store → RS) (ρ : Env) (s : Store) : RS := if c then f (cutE n ρ) (s.take n) else f ρ s
def forL (c : Bool) (n : Nat) (f : D → Env → Store → RS) : List D → Env → Store → RS
  | [], ρ, s => .nx ρ s
  | x :: xs, ρ, s => match f x ρ s with
    | .nx ρ' s' => cutAt c n (forL c n f xs) ρ' s'
    | .ct ρ' s' => cutAt c n (forL c n f xs) ρ' s'
    | .bk ρ' s' => .nx ρ' s'
    | r => r
def whileL (c : Env → Store → R Bool) (f : Env → Store → RS) : Nat → Env → Store → RS
  | 0, _, _ => .bad
  | n + 1, ρ, s => (c ρ s).to ρ fun k s => if k then match f ρ s with
      | .nx ρ' s' => whileL c f n ρ' s'
      | .ct ρ' s' => whileL c f n ρ' s'
      | .bk ρ' s' => .nx ρ' s'
      | r => r
    else .nx ρ s
def setAll : List Nat → List B → Env → Env
  | i :: is, b :: bs, ρ => setAll is bs (ρ.set i (some b))
  | _, _, ρ => ρ
def gives : List B → Option (List B)
  | [] => some []
  | b :: r => b.give.bind fun d => (gives r).map (d :: ·)
/-- the list at a slot, what is behind a change of it -/
def lstAt (i : Nat) (ρ : Env) (s : Store) : Option (List D) := match ρ[i]? with
  | some (some (.own (.lst xs))) => some xs
  | some (some (.r k)) => match s[k]? with
    | some (.lst xs) => some xs
    | _ => none
  | _ => none
def roB : B → Option FB
  | .t d => some (.t d)
  | .r k => some (.r k)
  | _ => none
def roBs : List B → Option (List FB)
  | [] => some []
  | b :: r => (roB b).bind fun x => (roBs r).map (x :: ·)
def lstPut (i : Nat) (xs : List D) (ρ : Env) (s : Store) : RS := match ρ[i]? with
  | some (some (.own _)) => .nx (ρ.set i (some (.own (.lst xs)))) s
  | some (some (.r k)) => .nx ρ (s.set k (.lst xs))
  | _ => .bad
/-- x[w] = d, and on -/
def putA (i : Nat) (w : B) (d : D) (ρ : Env) (s : Store) (k : Env → Store → RS) : RS := match w, lstAt i ρ s with
  | .t (.int n), some xs => match ixN xs.length n with
    | some j => match lstPut i (xs.set j d) ρ s with
      | .nx ρ' s' => k ρ' s'
      | _ => .bad
    | none => .bad
  | _, _ => .bad
def steps : Nat := 1000000000
mutual
def exec (G : Gx) : CS → Env → Store → RS
  | .pass, ρ, s => .nx ρ s
  | .never, _, _ => .bad
  | .raise c, ρ, s => .ex c [] ρ s
  | .raise1 c e, ρ, s => (ev G e ρ s).to ρ fun b s => match b.frz with
      | some d => .ex c [d] ρ s
      | none => .bad
  | .expr e, ρ, s => (ev G e ρ s).to ρ fun _ s => .nx ρ s
  | .asg i e, ρ, s => (ev G e ρ s).to ρ fun b s => match b.give with
      | some b => .nx (ρ.set i (some b)) s
      | none => .bad
  | .asgT t e, ρ, s => (ev G e ρ s).to ρ fun b s => match b.frz.bind fun d => bindT t d ρ with
      | some ρ' => .nx ρ' s
      | none => .bad
  | .par is es, ρ, s => (evg G es ρ s).to ρ fun bs s => match gives bs with
      | some bs => if bs.length = is.length then .nx (setAll is bs ρ) s else .bad
      | none => .bad
  | .aug i op e, ρ, s => match ρ[i]? with
      | some (some (.t x)) => (ev G e ρ s).to ρ fun y s => match (y.peek s).bind (op2 op x) with
        | some (.t (.int z)) => .nx (ρ.set i (some (.t (.int z)))) s
        | _ => .bad
      | _ => .bad
  | .setIx i ix e, ρ, s => (ev G e ρ s).to ρ fun y s => match y.frz, lstAt i ρ s with
      | some d, some _ => (ev G ix ρ s).to ρ fun k s => match k, lstAt i ρ s with
        | .t (.int k), some xs => match ixN xs.length k with
          | some j => lstPut i (xs.set j d) ρ s
          | none => .bad
        | _, _ => .bad
      | _, _ => .bad
  | .app i e, ρ, s => match lstAt i ρ s with
      | none => .bad
      | some _ => (ev G e ρ s).to ρ fun y s => match y.frz, lstAt i ρ s with
        | some d, some xs => if xs.length < line then lstPut i (xs ++ [d]) ρ s else .bad
        | _, _ => .bad
  | .ext i e, ρ, s => match lstAt i ρ s with
      | none => .bad
      | some _ => (ev G e ρ s).to ρ fun y s => match y.peek s, lstAt i ρ s with
        | some (.lst ys), some xs => if xs.length + ys.length ≤ line then lstPut i (xs ++ ys) ρ s else .bad
        | _, _ => .bad
  | .ret e, ρ, s => match e with
      | .var i => match ρ[i]? with
        | some (some b) => match b.give with
          | some b => .rt b s
          | none => .bad
        | _ => .bad
      | e => (ev G e (still ρ) s).to (still ρ) fun b s => match b.give with
        | some b => .rt b s
        | none => .bad
  | .retN, _, s => .rt (.t .non) s
  | .ite c a b, ρ, s => (evT G c ρ s).to ρ fun k s => if k then execs G a ρ s else execs G b ρ s
  | .for_ cs kind its tg body, ρ, s => (evl G its ρ s).to ρ fun bs s =>
      match (frzs bs).bind (walk kind) with
      | none => .bad
      | some xs => forL cs s.length (fun x ρ s => match bindT tg x ρ with
          | none => .bad
          | some ρ => execs G body ρ s) xs ρ s
  | .while_ c body, ρ, s => whileL (evT G c) (execs G body) steps ρ s
  | .brk, ρ, s => .bk ρ s
  | .cont, ρ, s => .ct ρ s
  | .frz i, ρ, s => match ρ[i]? with
      | some (some b) => .nx (ρ.set i (some b.still)) s
      | _ => .bad
  | .mv i, ρ, s => match ρ[i]? with
      | some (some (.own (.lst xs))) => .nx (ρ.set i (some (.r s.length))) (s ++ [.lst xs])
      | _ => .bad
  | .newP i c args is es, ρ, s => match G.ob c with
      | none => .bad
      | some (x, F) => ((evl G args ρ s).bind F).to ρ fun fs s =>
        (evg G es ρ (s ++ layL fs ++ [.obj x (layF fs s.length)])).to ρ fun bs s' => match gives bs with
          | some bs => if bs.length = is.length then .nx (setAll (i :: is) (.r (s.length + (layL fs).length) :: bs) ρ) s' else .bad
          | none => .bad
  | .retO w es, ρ, s => (evl G es (still ρ) s).to (still ρ) fun bs s => match roBs bs with
      | some os => if (if w then decide (os.length ≤ line) else os.length == 1) then .ro os w s else .bad
      | none => .bad
  | .augAtt i x f op e, ρ, s => match ρ[i]? with
      | some (some (.r k)) => match (obAt x k s).bind fun fs => fs[f]? with
        | some (.t a) => (ev G e ρ s).to ρ fun y s => match (y.peek s).bind (op2 op a), obAt x k s with
          | some (.t (.int z)), some fs => match fs[f]? with
            | some (.t _) => .nx ρ (s.set k (.obj x (fs.set f (.t (.int z)))))
            | _ => .bad
          | _, _ => .bad
        | _ => .bad
      | _ => .bad
  | .unpS i j e, ρ, s => (ev G e ρ s).to ρ fun b s => match b with
      | .t (.tup (d :: ds)) => if ds.length ≤ 1000 then .nx ((ρ.set i (some (.t d))).set j (some (.own (.lst ds)))) s else .bad
      | _ => .bad
  | .swp i k1 k2 e, ρ, s => (ev G e ρ s).to ρ fun b s => match b with
      | .t (.tup [x, y]) => match lstAt i ρ s with
        | none => .bad
        | some _ => (ev G k1 ρ s).to ρ fun w s => putA i w x ρ s fun ρ s => match lstAt i ρ s with
          | none => .bad
          | some _ => (ev G k2 ρ s).to ρ fun w s => putA i w y ρ s fun ρ s => .nx ρ s
      | _ => .bad
def execs (G : Gx) : List CS → Env → Store → RS
  | [], ρ, s => .nx ρ s
  | c :: cs, ρ, s => match exec G c ρ s with
    | .nx ρ' s' => execs G cs ρ' s'
    | r => r
end
/-! ### defs -/
structure Fn where
  params : Nat
  slots : Nat
  body : List CS
/-- what a parameter holds -/
def B.par : B → B
  | .own d => .bor d
  | b => b
def enter (f : Fn) (args : List B) : Env := (args.map fun b => some b.par) ++ List.replicate (f.slots - f.params) none
def runF (G : Gx) (f : Fn) (args : List B) (s : Store) : R B := if args.length = f.params then match execs G f.body (enter f args) s with
    | .nx _ s' => .ok (.t .non) (s'.take s.length)
    | .rt b s' => .ok b (s'.take s.length)
    | .ex c p _ s' => .ex c p (s'.take s.length)
    | .ro es w s' => .of (((roDs s.length s' es).bind (roW w)).map .t) (s'.take s.length)
    | _ => .bad
  else .bad
/-- a class with slots: its __init__ is tests that raise, then the slots -/
structure In where
  x : Str
  params : Nat
  slots : Nat
  pre : List (CE × Nat)
  /-- slot, variable; those of one statement together -/
  sets : List (List (Nat × Nat))
def evPre (G : Gx) : List (CE × Nat) → Env → Store → R Unit
  | [], _, s => .ok () s
  | (c, x) :: r, ρ, s => (evT G c ρ s).bind fun k s => if k then .ex x [] s else evPre G r ρ s
def enterI (i : In) (args : List B) : Env := none :: ((args.map fun b => some b.par) ++ List.replicate (i.slots - i.params - 1) none)
def putO {α : Type} (i : Nat) (d : α) (os : List (Option α)) : List (Option α) := (os ++ List.replicate (i + 1 - os.length) none).set i (some d)
def putsO : List Nat → List D → List (Option D) → List (Option D)
  | i :: is, d :: ds, os => putsO is ds (putO i d os)
  | _, _, os => os
def evVars : List Nat → Env → Option (List D)
  | [], _ => some []
  | j :: r, ρ => match ρ[j]? with
    | some (some (.t d)) => (evVars r ρ).map (d :: ·)
    | _ => none
def runSets : List (List (Nat × Nat)) → Env → List (Option D) → Option (List (Option D))
  | [], _, os => some os
  | g :: gs, ρ, os => (evVars (g.map (·.2)) ρ).bind fun ds => runSets gs ρ (putsO (g.map (·.1)) ds os)
def allO {α : Type} : List (Option α) → Option (List α)
  | [] => some []
  | some d :: r => (allO r).map (d :: ·)
  | none :: _ => none
def runI (G : Gx) (i : In) (args : List B) (s : Store) : R B := if args.length = i.params then (evPre G i.pre (enterI i args) s).bind fun _ s => match (runSets i.sets (enterI i args) []).bind allO with
    | some (d :: ds) => .ok (.t (.ins i.x (d :: ds))) s
    | _ => .bad
  else .bad
/-- a class whose instances change: its __init__ stores what it computes -/
structure Ob where
  x : Str
  params : Nat
  slots : Nat
  sets : List (Nat × CE)
def evSets (G : Gx) : List (Nat × CE) → Env → List (Option (Bool × D)) → Store → R (List (Option (Bool × D)))
  | [], _, os, s => .ok os s
  | (i, c) :: r, ρ, os, s => (ev G c ρ s).bind fun b s => match obB b with
    | some q => evSets G r ρ (putO i q os) s
    | none => .bad
def enterO (o : Ob) (args : List B) : Env := none :: ((args.map fun b => some b.par) ++ List.replicate (o.slots - o.params - 1) none)
def runO (G : Gx) (o : Ob) (args : List B) (s : Store) : R (List (Bool × D)) := if args.length = o.params then (evSets G o.sets (enterO o args) [] s).bind fun os s => match allO os with
    | some (q :: qs) => .ok (q :: qs) s
    | _ => .bad
  else .bad
/-- the module: its constants, its functions; n: how deep calls may go -/
structure Md where
  gcs : List D
  fns : List Fn
  sub : Nat → Nat → Bool := fun _ _ => false
  tls : List Tl := []
  /-- the classes; the number of the first one is the number of the functions -/
  ini : List In := []
  /-- methods, numbered behind the classes -/
  mts : List Fn := []
  /-- classes whose instances change -/
  obs : List Ob := []
  /-- the module's dicts -/
  gds : List (List Str × List D) := []
/-- one further down, no lambdas -/
def Md.gxlOf (M : Md) (f1 : Nat → List B → Store → R B) : Gx := ⟨f1, fun g => M.gcs[g]?, fun _ _ _ => .bad, M.sub, fun _ => none, false, fun _ => none, fun g => M.gds[g]?⟩
/-- at depth n; f, f2: the functions at n, n - 2 -/
def Md.gxOf (M : Md) (n : Nat) (f f2 : Nat → List B → Store → R B) : Gx := ⟨f, fun g => M.gcs[g]?, f2, M.sub, if 2 ≤ n then fun t => M.tls[t]? else fun _ => none, decide (2 ≤ n),
  if 2 ≤ n then fun c => M.obs[c]?.map fun o => (o.x, runO (M.gxlOf f2) o) else fun _ => none, fun g => M.gds[g]?⟩
/-- the functions at depth n, n - 1, n - 2 -/
def Md.calls (M : Md) : Nat → (Nat → List B → Store → R B) × (Nat → List B → Store → R B) × (Nat → List B → Store → R B)
  | 0 => (fun _ _ _ => .bad, fun _ _ _ => .bad, fun _ _ _ => .bad)
  | n + 1 => (fun i args s => match M.fns[i]? with
    | some f => runF (M.gxOf n (M.calls n).1 (M.calls n).2.2) f args s
    | none => match M.ini[i - M.fns.length]? with
      | some j => if 1 ≤ n then runI (M.gxlOf (M.calls n).2.1) j args s else .bad
      | none => match M.mts[i - M.fns.length - M.ini.length]? with
        | some f => runF (M.gxOf n (M.calls n).1 (M.calls n).2.2) f args s
        | none => .bad, (M.calls n).1, (M.calls n).2.1)
def Md.call (M : Md) (n : Nat) : Nat → List B → Store → R B := (M.calls n).1
def Md.gx (M : Md) (n : Nat) : Gx := M.gxOf n (M.call n) (M.calls n).2.2
def Md.gxl (M : Md) (n : Nat) : Gx := M.gxlOf (M.calls n).2.1
theorem Md.call_eq (M : Md) (n i : Nat) (args : List B) (s : Store) : M.call (n + 1) i args s = match M.fns[i]? with
    | some f => runF (M.gx n) f args s
    | none => match M.ini[i - M.fns.length]? with
      | some j => if 1 ≤ n then runI (M.gxl n) j args s else .bad
      | none => match M.mts[i - M.fns.length - M.ini.length]? with
        | some f => runF (M.gx n) f args s
        | none => .bad := rfl
theorem Md.gxl_eq (M : Md) (n : Nat) : (M.gxl (n + 1)).fn = M.call n := rfl
end Zw
set_option Elab.async false
set_option linter.all false
set_option maxRecDepth 100000
/-! Zw1: how trees and the store lie in the heap of the hand layer. -/
namespace Zw
open PySem PySem.Spec PyProof.Rows L2
/-! ### trees in the heap -/
/-- what isinstance tells of the class named x -/
structure SlC (K : PySem.W.Frag) (x : Str) : Prop where
  cls : SlX.SCls K (He.ga K x)
  isi : SlX.SIsi K (He.ga K x)
  no : ∀ n ∈ ["int", "bool", "tuple", "list", "str", "dict"], PySem.W.kitOne K (.ref (He.ga K x)) (.type n) = some false
  yes : PySem.W.kitOne K (.ref (He.ga K x)) (.ref (He.ga K x)) = some true
/-- a key of a dict as a tree -/
def keyD : Key → D
  | .inl i => .int i
  | .inr x => .str x
mutual
inductive Rp (K : PySem.W.Frag) (F : Hp) : V → D → Prop
  | non : Rp K F .non .non
  | bl (b : Bool) : Rp K F (.bl b) (.bl b)
  | int (i : Int) : Rp K F (.int i) (.int i)
  | str (x : Str) : Rp K F (.str x) (.str x)
  | tup {a : Addr} {xs : List V} {ds : List D} : SqT K F a xs → RpL K F xs ds → Rp K F (.ref a) (.tup ds)
  | lst {a : Addr} {xs : List V} {ds : List D} : F a = some (.lst xs) → RpL K F xs ds → Rp K F (.ref a) (.lst ds)
  | dic {a : Addr} : F a = some (.dK []) → Rp K F (.ref a) .dic
  | rng {a : Addr} {i j : Int} : F a = some (.rng i j) → Rp K F (.ref a) (.rng i j)
  | dct {a : Addr} {kvs : List (Key × V)} {ds : List D} : F a = some (.dK kvs) → RpL K F (kvs.map (·.2)) ds → Rp K F (.ref a) (.dct (kvs.map fun p => keyD p.1) ds)
  | ins {a dx : Addr} {x : Str} {ws : List V} {ds : List D} : F a = some (SlX.SlO a (He.ga K x) dx (ws.map some)) → F dx = some (.xd []) → SlC K x → RpL K F ws ds → Rp K F (.ref a) (.ins x ds)
inductive RpL (K : PySem.W.Frag) (F : Hp) : List V → List D → Prop
  | nil : RpL K F [] []
  | cons {v : V} {vs : List V} {d : D} {ds : List D} : Rp K F v d → RpL K F vs ds → RpL K F (v :: vs) (d :: ds)
end
section
variable {K : PySem.W.Frag} {F F' : Hp}
mutual
theorem Rp.mono (e : Same F F') : ∀ {v : V} {d : D}, Rp K F v d → Rp K F' v d
  | _, _, .non => .non
  | _, _, .bl b => .bl b
  | _, _, .int i => .int i
  | _, _, .str x => .str x
  | _, _, .tup h r => .tup (by
      rcases h with (h | ⟨o, h⟩) | h
      · exact .inl (.inl (e _ _ h))
      · exact .inl (.inr ⟨o, e _ _ h⟩)
      · exact .inr h) (RpL.mono e r)
  | _, _, .lst h r => .lst (e _ _ h) (RpL.mono e r)
  | _, _, .dic h => .dic (e _ _ h)
  | _, _, .rng h => .rng (e _ _ h)
  | _, _, .dct h r => .dct (e _ _ h) (RpL.mono e r)
  | _, _, .ins h h2 c r => .ins (e _ _ h) (e _ _ h2) c (RpL.mono e r)
theorem RpL.mono (e : Same F F') : ∀ {vs : List V} {ds : List D}, RpL K F vs ds → RpL K F' vs ds
  | _, _, .nil => .nil
  | _, _, .cons h r => .cons (Rp.mono e h) (RpL.mono e r)
end
theorem RpL.length : ∀ {vs : List V} {ds : List D}, RpL K F vs ds → vs.length = ds.length
  | _, _, .nil => rfl
  | _, _, .cons _ r => by simp [RpL.length r]
theorem RpL.append : ∀ {vs ws : List V} {ds es : List D}, RpL K F vs ds → RpL K F ws es → RpL K F (vs ++ ws) (ds ++ es)
  | _, _, _, _, .nil, r => r
  | _, _, _, _, .cons h t, r => .cons h (RpL.append t r)
theorem RpL.get : ∀ {vs : List V} {ds : List D} {i : Nat} {d : D}, RpL K F vs ds → ds[i]? = some d → ∃ v, vs[i]? = some v ∧ Rp K F v d
  | _, _, _, _, .nil, e => by simp at e
  | _, _, 0, _, .cons h _, e => by simp at e; subst e; exact ⟨_, rfl, h⟩
  | _, _, i + 1, _, .cons _ r, e => by
    obtain ⟨v, h1, h2⟩ := RpL.get (i := i) r (by simpa using e)
    exact ⟨v, by simpa using h1, h2⟩
theorem RpL.set {v : V} {d : D} (h : Rp K F v d) : ∀ {vs : List V} {ds : List D} (i : Nat), RpL K F vs ds → RpL K F (vs.set i v) (ds.set i d)
  | _, _, _, .nil => .nil
  | _, _, 0, .cons _ r => .cons h r
  | _, _, i + 1, .cons q r => .cons q (RpL.set h i r)
theorem RpL.take : ∀ {vs : List V} {ds : List D} (n : Nat), RpL K F vs ds → RpL K F (vs.take n) (ds.take n)
  | _, _, 0, _ => by simpa using RpL.nil
  | _, _, _ + 1, .nil => by simpa using RpL.nil
  | _, _, n + 1, .cons h r => by simpa using RpL.cons h (RpL.take n r)
theorem RpL.drop : ∀ {vs : List V} {ds : List D} (n : Nat), RpL K F vs ds → RpL K F (vs.drop n) (ds.drop n)
  | _, _, 0, r => r
  | _, _, _ + 1, .nil => .nil
  | _, _, n + 1, .cons _ r => by simpa using RpL.drop n r
theorem RpL.rep {vs : List V} {ds : List D} (h : RpL K F vs ds) : ∀ n : Nat, RpL K F (List.replicate n vs).flatten (List.replicate n ds).flatten
  | 0 => .nil
  | n + 1 => by
    rw [List.replicate_succ, List.replicate_succ]
    exact RpL.append h (RpL.rep h n)
theorem RpL.nil_iff {vs : List V} {ds : List D} (h : RpL K F vs ds) : vs = [] ↔ ds = [] := by
  cases h with
  | nil => simp
  | cons => simp
theorem RpL.split : ∀ {vs : List V} {ds es : List D}, RpL K F vs (ds ++ es) → ∃ a b, vs = a ++ b ∧ RpL K F a ds ∧ RpL K F b es
  | vs, [], es, h => ⟨[], vs, rfl, .nil, h⟩
  | _, d :: ds, es, .cons h r => by
    obtain ⟨a, b, e, h1, h2⟩ := RpL.split r
    exact ⟨_ :: a, b, by rw [e]; rfl, .cons h h1, h2⟩
theorem rp_int {v : V} {i : Int} (h : Rp K F v (.int i)) : v = .int i := by cases h; rfl
theorem rp_bl {v : V} {b : Bool} (h : Rp K F v (.bl b)) : v = .bl b := by cases h; rfl
theorem rp_str {v : V} {x : Str} (h : Rp K F v (.str x)) : v = .str x := by cases h; rfl
theorem rp_non {v : V} (h : Rp K F v .non) : v = .non := by cases h; rfl
end
/-! ### the state -/
/-- no table of code objects -/
abbrev NT (o : HO) : Prop := ∀ ps, o ≠ .tbl ps
/-- nothing there, unless a table -/
def Gone (H : Hp) (a : Addr) : Prop := ∀ o, H a = some o → NT o → False
theorem Gone.of {H : Hp} {a : Addr} (h : H a = none) : Gone H a := fun o e _ => by rw [h] at e; cases e
theorem lv {H : Hp} {a : Addr} {o : HO} (h : H a = some o) (n : NT o) : ¬ Gone H a := fun g => g o h n
theorem lvL {H : Hp} {a : Addr} {xs : List V} (h : H a = some (.lst xs)) : ¬ Gone H a := lv h fun _ z => by cases z
theorem goneNe {H : Hp} {a b : Addr} (h : ¬ Gone H a) (g : Gone H b) : a ≠ b := fun z => h (by rw [z]; exact g)
theorem goneNone {H : Hp} {a b : Addr} (h : ¬ Gone H a) (g : H b = none) : a ≠ b := goneNe h (.of g)
theorem gone_upd {H : Hp} {a b : Addr} {o : HO} (h : ¬ Gone H a) (n : NT o) : ¬ Gone (upd H b o) a := fun g => by
  by_cases q : a = b
  · exact g o (by rw [q, upd_same]) n
  · exact h fun u e m => g u (by rw [upd_ne q]; exact e) m
/-- the tables of code objects that K leaves out: each beside the name of its lambdas -/
def tabAt (K : PySem.W.Frag) (fd : FuncData) : Option (Addr × Str) := match fd.code with
  | .ref c => if PySem.W.codeHdIn K c (He.tabOf K c) && (K.lookup (He.tabOf K c)).isNone then some (He.tabOf K c, fd.qualname ++ (".<locals>." : Str) ++ ("<lambda>" : Str)) else none
  | _ => none
def tabT (K : PySem.W.Frag) : List (Addr × Str) := K.filterMap fun p => match p.2.data with
  | .func fd => tabAt K fd
  | _ => none
/-- what an instance that changes holds: trees, lists at places of the store -/
inductive FbL (K : PySem.W.Frag) (F : Hp) (μ : List Addr) : List V → List FB → Prop
  | nil : FbL K F μ [] []
  | t {v : V} {d : D} {vs : List V} {fs : List FB} : Rp K F v d → FbL K F μ vs fs → FbL K F μ (v :: vs) (.t d :: fs)
  | r {a : Addr} {j : Nat} {vs : List V} {fs : List FB} : μ[j]? = some a → FbL K F μ vs fs → FbL K F μ (.ref a :: vs) (.r j :: fs)
theorem FbL.to {K : PySem.W.Frag} {F F' : Hp} {μ μ' : List Addr} (e : Same F F') (m : ∀ (j : Nat) (a : Addr), μ[j]? = some a → μ'[j]? = some a) : ∀ {vs : List V} {fs : List FB}, FbL K F μ vs fs → FbL K F' μ' vs fs
  | _, _, .nil => .nil
  | _, _, .t h q => .t (h.mono e) (FbL.to e m q)
  | _, _, .r h q => .r (m _ _ h) (FbL.to e m q)
theorem FbL.get {K : PySem.W.Frag} {F : Hp} {μ : List Addr} : ∀ {vs : List V} {fs : List FB} {i : Nat} {f : FB}, FbL K F μ vs fs → fs[i]? = some f → ∃ v, vs[i]? = some v ∧ (match f with
    | .t d => Rp K F v d
    | .r j => ∃ a, v = .ref a ∧ μ[j]? = some a)
  | _, _, _, _, .nil, e => by simp at e
  | _, _, 0, _, .t h _, e => by simp at e; subst e; exact ⟨_, rfl, h⟩
  | _, _, 0, _, .r h _, e => by simp at e; subst e; exact ⟨_, rfl, _, rfl, h⟩
  | _, _, i + 1, _, .t _ q, e => by
    obtain ⟨v, h1, h2⟩ := FbL.get (i := i) q (by simpa using e)
    exact ⟨v, by simpa using h1, h2⟩
  | _, _, i + 1, _, .r _ q, e => by
    obtain ⟨v, h1, h2⟩ := FbL.get (i := i) q (by simpa using e)
    exact ⟨v, by simpa using h1, h2⟩
theorem FbL.set {K : PySem.W.Frag} {F : Hp} {μ : List Addr} {v : V} {d : D} (h : Rp K F v d) : ∀ {vs : List V} {fs : List FB} (i : Nat), FbL K F μ vs fs → FbL K F μ (vs.set i v) (fs.set i (.t d))
  | _, _, _, .nil => .nil
  | _, _, 0, .t _ q => .t h q
  | _, _, 0, .r _ q => .t h q
  | _, _, i + 1, .t u q => .t u (FbL.set h i q)
  | _, _, i + 1, .r u q => .r u (FbL.set h i q)
theorem FbL.length {K : PySem.W.Frag} {F : Hp} {μ : List Addr} : ∀ {vs : List V} {fs : List FB}, FbL K F μ vs fs → vs.length = fs.length
  | _, _, .nil => rfl
  | _, _, .t _ q => by simp [FbL.length q]
  | _, _, .r _ q => by simp [FbL.length q]
/-- such an instance in the heap -/
def ObR (K : PySem.W.Frag) (F : Hp) (μ : List Addr) (H : Hp) (a : Addr) (x : Str) (fs : List FB) : Prop :=
  ∃ dx ws, H a = some (SlX.SlO a (He.ga K x) dx (ws.map some)) ∧ F dx = some (.xd []) ∧ SlC K x ∧ FbL K F μ ws fs
theorem ObR.to {K : PySem.W.Frag} {F F' H H' : Hp} {μ μ' : List Addr} {a : Addr} {x : Str} {fs : List FB} (e : Same F F') (m : ∀ (j : Nat) (a : Addr), μ[j]? = some a → μ'[j]? = some a) (k : ∀ o, NT o → H a = some o → H' a = some o) (h : ObR K F μ H a x fs) : ObR K F' μ' H' a x fs := by
  obtain ⟨dx, ws, h1, h2, h3, h4⟩ := h
  exact ⟨dx, ws, k _ (fun _ z => by unfold SlX.SlO at z; cases z) h1, e _ _ h2, h3, h4.to e m⟩
structure Rel (K : PySem.W.Frag) (F : Hp) (μ : List Addr) (S : Store) (H : Hp) : Prop where
  sub : Same F H
  len : μ.length = S.length
  nd : μ.Nodup
  obj : ∀ (k : Nat) (a : Addr) (xs : List D), μ[k]? = some a → S[k]? = some (.lst xs) → ∃ vs, H a = some (.lst vs) ∧ RpL K F vs xs
  dis : ∀ a ∈ μ, F a = none
  ft : ∀ a o, F a = some o → NT o
  tab : LamX.Tabs (tabT K) H
  ob2 : ∀ (k : Nat) (a : Addr) (x : Str) (fs : List FB), μ[k]? = some a → S[k]? = some (.obj x fs) → ObR K F (μ.take k) H a x fs
theorem tabs_upd {T : List (Addr × Str)} {H : Hp} {a : Addr} {o : HO} (t : LamX.Tabs T H) (h : ∀ u, H a = some u → ∃ xs, u = .lst xs) : LamX.Tabs T (upd H a o) := fun p hp => by
  obtain ⟨ps, h1, h2, h3⟩ := t p hp
  refine ⟨ps, ?_, h2, fun pos cv e => ?_⟩
  · rw [upd_ne]
    · exact h1
    · intro z
      obtain ⟨xs, e⟩ := h _ (by rw [← z]; exact h1)
      cases e
  · obtain ⟨c, e1, e2⟩ := h3 pos cv e
    refine ⟨c, e1, ?_⟩
    rw [upd_ne]
    · exact e2
    · intro z
      obtain ⟨xs, e⟩ := h _ (by rw [← z]; exact e2)
      unfold LamX.CodeO at e
      cases e
theorem tabs_new {T : List (Addr × Str)} {H : Hp} {a : Addr} {o : HO} (t : LamX.Tabs T H) (h : H a = none) : LamX.Tabs T (upd H a o) := tabs_upd t fun u e => by rw [h] at e; cases e
theorem tabs_lst {T : List (Addr × Str)} {H : Hp} {a : Addr} {o : HO} {xs : List V} (t : LamX.Tabs T H) (h : H a = some (.lst xs)) : LamX.Tabs T (upd H a o) := tabs_upd t fun u e => by rw [h] at e; cases e; exact ⟨xs, rfl⟩
/-- what evaluation leaves -/
structure Ext (μ : List Addr) (F H F' H' : Hp) : Prop where
  fs : Same F F'
  fn : ∀ a, ¬ Gone H a → F' a = F a
  keep : ∀ a o, H a = some o → NT o → a ∉ μ → H' a = some o
  live : ∀ a, ¬ Gone H a → ¬ Gone H' a
theorem Ext.refl (μ : List Addr) (F H : Hp) : Ext μ F H F H := ⟨fun _ _ h => h, fun _ _ => rfl, fun _ _ h _ _ => h, fun _ h => h⟩
theorem Ext.trans {μ : List Addr} {F H F1 H1 F2 H2 : Hp} (x : Ext μ F H F1 H1) (y : Ext μ F1 H1 F2 H2) : Ext μ F H F2 H2 :=
  ⟨fun a o h => y.fs a o (x.fs a o h), fun a h => (y.fn a (x.live a h)).trans (x.fn a h), fun a o h n m => y.keep a o (x.keep a o h n m) n m, fun a h => y.live a (x.live a h)⟩
theorem Ext.back {μ : List Addr} {F H F1 H1 : Hp} (x : Ext μ F H F1 H1) {a : Addr} (h : Gone H1 a) : Gone H a := Classical.byContradiction fun z => x.live a z h
/-- own and borrowed lists -/
def OwnAt (K : PySem.W.Frag) (F : Hp) (μ : List Addr) (H : Hp) (v : V) (d : D) : Prop :=
  ∃ a xs ds, v = .ref a ∧ d = .lst ds ∧ H a = some (.lst xs) ∧ RpL K F xs ds ∧ F a = none ∧ a ∉ μ
/-- a list that nobody changes: the script, a list of the module -/
def ScAt (K : PySem.W.Frag) (μ : List Addr) (H : Hp) (a : Addr) (xs : List V) : Prop := (∃ o, H a = some (.frz o (.lst xs)) ∧ a ∉ μ) ∨
  ∃ (o : Obj) (its : Array Value) (n : Nat), K.lookup a = some o ∧ o.cls = .type "list" ∧ o.dict = none ∧ o.data = .seq its n ∧ its.size ≤ sizeLine ∧ Vals xs its.toList
theorem ScAt.sq {K : PySem.W.Frag} {μ : List Addr} {H : Hp} {a : Addr} {xs : List V} (h : ScAt K μ H a xs) : SqL K H a xs := h.elim (fun ⟨o, h, _⟩ => .inl (.inr ⟨o, h⟩)) .inr
theorem ScAt.to {K : PySem.W.Frag} {μ μ' : List Addr} {H H' : Hp} {a : Addr} {xs : List V} (h : ScAt K μ H a xs) (k : ∀ o, H a = some (.frz o (.lst xs)) → a ∉ μ → H' a = some (.frz o (.lst xs)) ∧ a ∉ μ') : ScAt K μ' H' a xs :=
  h.elim (fun ⟨o, h, m⟩ => .inl ⟨o, k o h m⟩) .inr
def BRp (K : PySem.W.Frag) (F : Hp) (μ : List Addr) (H : Hp) (v : V) : B → Prop
  | .t d => Rp K F v d
  | .own d => OwnAt K F μ H v d
  | .bor d => OwnAt K F μ H v d
  | .sc d => ∃ a xs ds, v = .ref a ∧ d = .lst ds ∧ ScAt K μ H a xs ∧ RpL K F xs ds
  | .r k => ∃ a, v = .ref a ∧ μ[k]? = some a
structure ER (K : PySem.W.Frag) (F : Hp) (μ : List Addr) (H : Hp) (ρ : Env) (σ : L2.St) : Prop where
  len : ρ.length = σ.length
  val : ∀ (i : Nat) (b : B), ρ[i]? = some (some b) → ∃ v, σ[i]? = some (some v) ∧ BRp K F μ H v b
  sep : ∀ (i j : Nat) (d d' : D) (a : Addr), i ≠ j → ρ[i]? = some (some (.own d)) → (ρ[j]? = some (some (.own d')) ∨ ρ[j]? = some (some (.bor d'))) →
    σ[i]? = some (some (.ref a)) → σ[j]? ≠ some (some (.ref a))
section
variable {K : PySem.W.Frag} {F F' F1 : Hp} {μ : List Addr} {H H' H1 : Hp} {ρ : Env} {σ : L2.St} {v : V} {b : B}
theorem OwnAt.step {d : D} (x : Ext μ F H F' H') (h : OwnAt K F μ H v d) : OwnAt K F' μ H' v d := by
  obtain ⟨a, xs, ds, e, ed, ha, r, n, m⟩ := h
  exact ⟨a, xs, ds, e, ed, x.keep a _ ha (fun _ z => by cases z) m, r.mono x.fs, by rw [x.fn a (lvL ha)]; exact n, m⟩
theorem BRp.step (x : Ext μ F H F' H') (h : BRp K F μ H v b) : BRp K F' μ H' v b := by
  cases b with
  | t d => exact Rp.mono x.fs h
  | own d => exact OwnAt.step x h
  | bor d => exact OwnAt.step x h
  | sc d =>
    obtain ⟨a, xs, ds, e, ed, ha, r⟩ := h
    exact ⟨a, xs, ds, e, ed, ha.to fun o e m => ⟨x.keep a _ e (fun _ z => by cases z) m, m⟩, r.mono x.fs⟩
  | r k => exact h
theorem ER.step (x : Ext μ F H F' H') (h : ER K F μ H ρ σ) : ER K F' μ H' ρ σ :=
  ⟨h.len, fun i b e => let ⟨v, h1, h2⟩ := h.val i b e; ⟨v, h1, h2.step x⟩, h.sep⟩
/-- a fresh list -/
def Fresh (H : Hp) (v : V) : B → Prop
  | .own _ => ∀ a, v = .ref a → Gone H a
  | _ => True
theorem Fresh.back (x : Ext μ F H F1 H1) (h : Fresh H1 v b) : Fresh H v b := by
  cases b with
  | own d =>
    intro a e
    exact x.back (h a e)
  | t _ => trivial
  | bor _ => trivial
  | sc _ => trivial
  | r _ => trivial
end
/-! ### exceptions -/
/-- the class numbered c: its object's value, the attribute that it keeps -/
structure XCls where
  cls : Value
  attr : Option Str
/-- how an exception of the class lies in the heap -/
def XR (K : PySem.W.Frag) (xc : Nat → Option XCls) (F H : Hp) (c : Nat) (p : List D) (cls : Value) (d : Option Addr) : Prop :=
  ∃ x, xc c = some x ∧ cls = x.cls ∧ match x.attr, p with
    | none, [] => True
    | some f, [q] => ∃ dd v, d = some dd ∧ H dd = some (.xd [(f, v)]) ∧ Rp K F v q
    | _, _ => False
/-! ### what is wanted of a result -/
section
variable (K : PySem.W.Frag) (xc : Nat → Option XCls) (μ : List Addr) (W : WX)
def okE (F H : Hp) (σ : L2.St) (r : R B) (Q : V → Hp → Prop) : Prop := match r with
  | .ok b S' => ∀ F' H' v, Ext μ F H F' H' → Rel K F' μ S' H' → BRp K F' μ H' v b → Fresh H v b → Q v H'
  | .ex c p S' => ∀ F' H' cls d, Ext μ F H F' H' → Rel K F' μ S' H' → XR K xc F' H' c p cls d → W cls d σ H'
  | .bad => False
/-- the same, the whole state told -/
def okS {α : Type} (F H : Hp) (σ : L2.St) (r : R α) (Q : α → Store → Hp → Hp → Prop) : Prop := match r with
  | .ok b S' => Q b S' F H
  | .ex c p S' => ∀ F' H' cls d, Ext μ F H F' H' → Rel K F' μ S' H' → XR K xc F' H' c p cls d → W cls d σ H'
  | .bad => False
end
section
variable {K : PySem.W.Frag} {xc : Nat → Option XCls} {μ : List Addr} {W : WX} {F H F1 H1 : Hp} {σ : L2.St}
theorem okE.step {r : R B} {Q : V → Hp → Prop} (x : Ext μ F H F1 H1) (h : okE K xc μ W F H σ r Q) : okE K xc μ W F1 H1 σ r Q := by
  cases r with
  | ok b S' => exact fun F' H' v e r q f => h F' H' v (x.trans e) r q (f.back x)
  | ex c p S' => exact fun F' H' cls d e r q => h F' H' cls d (x.trans e) r q
  | bad => exact h
end
/-- an expression's reading by what the interpreter makes of it -/
def tM (K : PySem.W.Frag) (xc : Nat → Option XCls) (W : WX) (m : Env → Store → R B) : TE := fun σ H Q =>
  ∃ F μ S ρ, Rel K F μ S H ∧ ER K F μ H ρ σ ∧ okE K xc μ W F H σ (m ρ S) Q
/-- a list of values -/
inductive BRs (K : PySem.W.Frag) (F : Hp) (μ : List Addr) (H : Hp) : List V → List B → Prop
  | nil : BRs K F μ H [] []
  | cons {v : V} {vs : List V} {b : B} {bs : List B} : BRp K F μ H v b → BRs K F μ H vs bs → BRs K F μ H (v :: vs) (b :: bs)
theorem BRs.step {K : PySem.W.Frag} {F F' : Hp} {μ : List Addr} {H H' : Hp} (x : Ext μ F H F' H') : ∀ {vs : List V} {bs : List B}, BRs K F μ H vs bs → BRs K F' μ H' vs bs
  | _, _, .nil => .nil
  | _, _, .cons h r => .cons (h.step x) (BRs.step x r)
theorem BRs.length {K : PySem.W.Frag} {F : Hp} {μ : List Addr} {H : Hp} : ∀ {vs : List V} {bs : List B}, BRs K F μ H vs bs → vs.length = bs.length
  | _, _, .nil => rfl
  | _, _, .cons _ r => by simp [BRs.length r]
def okL (K : PySem.W.Frag) (xc : Nat → Option XCls) (μ : List Addr) (W : WX) (F H : Hp) (σ : L2.St) (r : R (List B)) (Q : List V → Hp → Prop) : Prop := match r with
  | .ok bs S' => ∀ F' H' vs, Ext μ F H F' H' → Rel K F' μ S' H' → BRs K F' μ H' vs bs → Q vs H'
  | .ex c p S' => ∀ F' H' cls d, Ext μ F H F' H' → Rel K F' μ S' H' → XR K xc F' H' c p cls d → W cls d σ H'
  | .bad => False
def tML (K : PySem.W.Frag) (xc : Nat → Option XCls) (W : WX) (m : Env → Store → R (List B)) : TA := fun σ H Q =>
  ∃ F μ S ρ, Rel K F μ S H ∧ ER K F μ H ρ σ ∧ okL K xc μ W F H σ (m ρ S) Q
/-- the items of a display: trees alone -/
def okD (K : PySem.W.Frag) (xc : Nat → Option XCls) (μ : List Addr) (W : WX) (F H : Hp) (σ : L2.St) (r : R (List D)) (Q : List V → Hp → Prop) : Prop := match r with
  | .ok ds S' => ∀ F' H' vs, Ext μ F H F' H' → Rel K F' μ S' H' → RpL K F' vs ds → Q vs H'
  | .ex c p S' => ∀ F' H' cls d, Ext μ F H F' H' → Rel K F' μ S' H' → XR K xc F' H' c p cls d → W cls d σ H'
  | .bad => False
def tMD (K : PySem.W.Frag) (xc : Nat → Option XCls) (W : WX) (m : Env → Store → R (List D)) : TA := fun σ H Q =>
  ∃ F μ S ρ, Rel K F μ S H ∧ ER K F μ H ρ σ ∧ okD K xc μ W F H σ (m ρ S) Q
def okT (K : PySem.W.Frag) (xc : Nat → Option XCls) (μ : List Addr) (W : WX) (F H : Hp) (σ : L2.St) (r : R Bool) (Q : Bool → Hp → Prop) : Prop := match r with
  | .ok k S' => ∀ F' H', Ext μ F H F' H' → Rel K F' μ S' H' → Q k H'
  | .ex c p S' => ∀ F' H' cls d, Ext μ F H F' H' → Rel K F' μ S' H' → XR K xc F' H' c p cls d → W cls d σ H'
  | .bad => False
def tMT (K : PySem.W.Frag) (xc : Nat → Option XCls) (W : WX) (m : Env → Store → R Bool) : TT := fun σ H Q =>
  ∃ F μ S ρ, Rel K F μ S H ∧ ER K F μ H ρ σ ∧ okT K xc μ W F H σ (m ρ S) Q
theorem PE.weak {X : Cx} {e : Expr} {t t' : TE} (h : PE X e t) (w : ∀ σ H Q, t' σ H Q → t σ H Q) : PE X e t' := ⟨fun pins s σ H Q I q => h.run pins s σ H Q I (w σ H Q q)⟩
theorem PT.weak {X : Cx} {e : Expr} {t t' : TT} (h : PT X e t) (w : ∀ σ H Q, t' σ H Q → t σ H Q) : PT X e t' := ⟨fun pins s σ H Q I q => h.run pins s σ H Q I (w σ H Q q)⟩
theorem PW.weak {X : Cx} {e : Expr} {t t' : TT} (h : PW X e t) (w : ∀ σ H Q, t' σ H Q → t σ H Q) : PW X e t' := ⟨fun wh pins s σ H Q I q => h.run wh pins s σ H Q I (w σ H Q q)⟩
theorem PA.weak {X : Cx} {es : List Expr} {t t' : TA} (h : PA X es t) (w : ∀ σ H Q, t' σ H Q → t σ H Q) : PA X es t' := ⟨fun pos pins s σ H Q I q => h.run pos pins s σ H Q I (w σ H Q q)⟩
theorem PS.weak {X : Cx} {st : Stmt} {t t' : TS} (h : PS X st t) (w : ∀ D σ H, t' D σ H → t D σ H) : PS X st t' := ⟨fun pins s σ H D I q => h.run pins s σ H D I (w D σ H q)⟩
theorem PSs.weak {X : Cx} {st : List Stmt} {t t' : TS} (h : PSs X st t) (w : ∀ D σ H, t' D σ H → t D σ H) : PSs X st t' := ⟨fun pins s σ H D I q => h.run pins s σ H D I (w D σ H q)⟩
/-! ### one after another -/
section
variable {K : PySem.W.Frag} {xc : Nat → Option XCls} {W : WX} {σ : L2.St} {H F : Hp} {μ : List Addr}
theorem okE_bind {r : R B} {g : B → Store → R B} {Q R' : VK} (h : okE K xc μ W F H σ (r.bind g) Q)
    (k : ∀ F1 H1 v b S1, Ext μ F H F1 H1 → Rel K F1 μ S1 H1 → BRp K F1 μ H1 v b → Fresh H v b → okE K xc μ W F1 H1 σ (g b S1) Q → R' v H1) : okE K xc μ W F H σ r R' := by
  cases r with
  | ok b S1 => exact fun F1 H1 v x r1 bv fr => k F1 H1 v b S1 x r1 bv fr (okE.step x h)
  | ex c p S1 => exact h
  | bad => exact h
theorem okE_bind0 {r : R B} {g : B → Store → R B} {Q R' : VK} (h : okE K xc μ W F H σ (r.bind g) Q)
    (k : ∀ F1 H1 v b S1, Ext μ F H F1 H1 → Rel K F1 μ S1 H1 → BRp K F1 μ H1 v b → Fresh H v b → okE K xc μ W F H σ (g b S1) Q → R' v H1) : okE K xc μ W F H σ r R' := by
  cases r with
  | ok b S1 => exact fun F1 H1 v x r1 bv fr => k F1 H1 v b S1 x r1 bv fr h
  | ex c p S1 => exact h
  | bad => exact h
theorem okE_bindD {r : R B} {g : B → Store → R (List D)} {Q : List V → Hp → Prop} {R' : VK} (h : okD K xc μ W F H σ (r.bind g) Q)
    (k : ∀ F1 H1 v b S1, Ext μ F H F1 H1 → Rel K F1 μ S1 H1 → BRp K F1 μ H1 v b → Fresh H v b → okD K xc μ W F1 H1 σ (g b S1) Q → R' v H1) : okE K xc μ W F H σ r R' := by
  cases r with
  | ok b S1 =>
    refine fun F1 H1 v x r1 bv fr => k F1 H1 v b S1 x r1 bv fr ?_
    have h2 : okD K xc μ W F H σ (g b S1) Q := h
    cases q : g b S1 with
    | ok ds S2 => rw [q] at h2; exact fun F' H' vs e r q => h2 F' H' vs (x.trans e) r q
    | ex c p S2 => rw [q] at h2; exact fun F' H' cls d e r q => h2 F' H' cls d (x.trans e) r q
    | bad => rw [q] at h2; exact h2
  | ex c p S1 => exact h
  | bad => exact h
theorem okE_bindL {r : R B} {g : B → Store → R (List B)} {Q : List V → Hp → Prop} {R' : VK} (h : okL K xc μ W F H σ (r.bind g) Q)
    (k : ∀ F1 H1 v b S1, Ext μ F H F1 H1 → Rel K F1 μ S1 H1 → BRp K F1 μ H1 v b → Fresh H v b → okL K xc μ W F1 H1 σ (g b S1) Q → R' v H1) : okE K xc μ W F H σ r R' := by
  cases r with
  | ok b S1 =>
    refine fun F1 H1 v x r1 bv fr => k F1 H1 v b S1 x r1 bv fr ?_
    have h2 : okL K xc μ W F H σ (g b S1) Q := h
    cases q : g b S1 with
    | ok ds S2 => rw [q] at h2; exact fun F' H' vs e r q => h2 F' H' vs (x.trans e) r q
    | ex c p S2 => rw [q] at h2; exact fun F' H' cls d e r q => h2 F' H' cls d (x.trans e) r q
    | bad => rw [q] at h2; exact h2
  | ex c p S1 => exact h
  | bad => exact h
theorem okE_bindT {r : R B} {g : B → Store → R Bool} {Q : Bool → Hp → Prop} {R' : VK} (h : okT K xc μ W F H σ (r.bind g) Q)
    (k : ∀ F1 H1 v b S1, Ext μ F H F1 H1 → Rel K F1 μ S1 H1 → BRp K F1 μ H1 v b → Fresh H v b → okT K xc μ W F1 H1 σ (g b S1) Q → R' v H1) : okE K xc μ W F H σ r R' := by
  cases r with
  | ok b S1 =>
    refine fun F1 H1 v x r1 bv fr => k F1 H1 v b S1 x r1 bv fr ?_
    have h2 : okT K xc μ W F H σ (g b S1) Q := h
    cases q : g b S1 with
    | ok ds S2 => rw [q] at h2; exact fun F' H' e r => h2 F' H' (x.trans e) r
    | ex c p S2 => rw [q] at h2; exact fun F' H' cls d e r q => h2 F' H' cls d (x.trans e) r q
    | bad => rw [q] at h2; exact h2
  | ex c p S1 => exact h
  | bad => exact h
theorem okT_bind {r : R Bool} {g : Bool → Store → R B} {Q : VK} {R' : Bool → Hp → Prop} (h : okE K xc μ W F H σ (r.bind g) Q)
    (k : ∀ F1 H1 b S1, Ext μ F H F1 H1 → Rel K F1 μ S1 H1 → okE K xc μ W F1 H1 σ (g b S1) Q → R' b H1) : okT K xc μ W F H σ r R' := by
  cases r with
  | ok b S1 => exact fun F1 H1 x r1 => k F1 H1 b S1 x r1 (okE.step x h)
  | ex c p S1 => exact h
  | bad => exact h
theorem okL_bind {r : R (List B)} {g : List B → Store → R B} {Q : VK} {R' : List V → Hp → Prop} (h : okE K xc μ W F H σ (r.bind g) Q)
    (k : ∀ F1 H1 vs bs S1, Ext μ F H F1 H1 → Rel K F1 μ S1 H1 → BRs K F1 μ H1 vs bs → okE K xc μ W F1 H1 σ (g bs S1) Q → R' vs H1) : okL K xc μ W F H σ r R' := by
  cases r with
  | ok b S1 => exact fun F1 H1 vs x r1 bv => k F1 H1 vs b S1 x r1 bv (okE.step x h)
  | ex c p S1 => exact h
  | bad => exact h
theorem okD_bind {r : R (List D)} {g : List D → Store → R B} {Q : VK} {R' : List V → Hp → Prop} (h : okE K xc μ W F H σ (r.bind g) Q)
    (k : ∀ F1 H1 vs ds S1, Ext μ F H F1 H1 → Rel K F1 μ S1 H1 → RpL K F1 vs ds → okE K xc μ W F1 H1 σ (g ds S1) Q → R' vs H1) : okD K xc μ W F H σ r R' := by
  cases r with
  | ok b S1 => exact fun F1 H1 vs x r1 bv => k F1 H1 vs b S1 x r1 bv (okE.step x h)
  | ex c p S1 => exact h
  | bad => exact h
theorem okD_bind0 {r : R (List D)} {g : List D → Store → R B} {Q : VK} {R' : List V → Hp → Prop} (h : okE K xc μ W F H σ (r.bind g) Q)
    (k : ∀ F1 H1 vs ds S1, Ext μ F H F1 H1 → Rel K F1 μ S1 H1 → RpL K F1 vs ds → okE K xc μ W F H σ (g ds S1) Q → R' vs H1) : okD K xc μ W F H σ r R' := by
  cases r with
  | ok b S1 => exact fun F1 H1 vs x r1 bv => k F1 H1 vs b S1 x r1 bv h
  | ex c p S1 => exact h
  | bad => exact h
theorem bin_rd {ma mb : Env → Store → R B} {g : B → B → Store → R B} {r : R2} {Q : VK}
    (hop : ∀ F μ S H x y bx bY (Q : VK), Rel K F μ S H → BRp K F μ H x bx → BRp K F μ H y bY → okE K xc μ W F H σ (g bx bY S) Q → r x y H Q)
    (h : tM K xc W (fun ρ s => (ma ρ s).bind fun x s => (mb ρ s).bind fun y s => g x y s) σ H Q) : tOp r (tM K xc W ma) (tM K xc W mb) σ H Q := by
  obtain ⟨F, μ, S, ρ, rel, er, h⟩ := h
  exact ⟨F, μ, S, ρ, rel, er, okE_bind h fun F1 H1 x bx S1 e1 r1 b1 f1 h1 => ⟨F1, μ, S1, ρ, r1, er.step e1, okE_bind h1 fun F2 H2 y bY S2 e2 r2 b2 f2 h2 =>
    hop F2 μ S2 H2 x y bx bY Q r2 (b1.step e2) b2 h2⟩⟩
/-- a value that needs no new object -/
theorem okE_val {S : Store} {b : B} {v : V} {Q : VK} (h : okE K xc μ W F H σ (.ok b S) Q) (r : Rel K F μ S H) (bv : BRp K F μ H v b) (f : Fresh H v b) : Q v H := h F H v (Ext.refl _ _ _) r bv f
/-- a new object at p, a tree -/
theorem Rel.live1 {S : Store} (r : Rel K F μ S H) {a : Addr} (ha : a ∈ μ) : ∃ o, H a = some o ∧ NT o := by
  obtain ⟨k, hk⟩ := List.mem_iff_getElem?.mp ha
  have hl : k < S.length := by rw [← r.len]; exact (List.getElem?_eq_some_iff.mp hk).1
  cases e : S[k]? with
  | none => exact absurd (List.getElem?_eq_none_iff.mp e) (by omega)
  | some o => cases o with
    | lst xs =>
      obtain ⟨vs, h1, _⟩ := r.obj k a xs hk e
      exact ⟨_, h1, fun _ z => by cases z⟩
    | obj x fs =>
      obtain ⟨dx, ws, h1, _⟩ := r.ob2 k a x fs hk e
      exact ⟨_, h1, fun _ z => by unfold SlX.SlO at z; cases z⟩
theorem Rel.out {S : Store} {p : Addr} (r : Rel K F μ S H) (hp : Gone H p) : F p = none ∧ p ∉ μ := by
  constructor
  · cases e : F p with
    | none => rfl
    | some u => exact (hp u (r.sub p u e) (r.ft p u e)).elim
  · intro ha
    obtain ⟨o, h1, n⟩ := r.live1 ha
    exact lv h1 n hp
theorem Rel.new {S : Store} {p : Addr} {o : HO} (r : Rel K F μ S H) (hp : H p = none) (n : NT o) : Rel K (upd F p o) μ S (upd H p o) := by
  have nf : ∀ a u, F a = some u → a ≠ p := fun a u e z => by rw [z] at e; rw [r.sub p u e] at hp; cases hp
  have sF : Same F (upd F p o) := fun a u e => by rw [upd_ne (nf a u e)]; exact e
  refine ⟨fun a u e => ?_, r.len, r.nd, fun k a xs e1 e2 => ?_, fun a ha => ?_, fun a u e => ?_, tabs_new r.tab hp, fun k a x fs e1 e2 => (r.ob2 k a x fs e1 e2).to sF (fun _ _ h => h) fun o _ h => by rw [upd_ne (fun z => by rw [z, hp] at h; cases h)]; exact h⟩
  · by_cases q : a = p
    · rw [q, upd_same] at e; rw [q, upd_same]; exact e
    · rw [upd_ne q] at e; rw [upd_ne q]; exact r.sub a u e
  · obtain ⟨vs, h1, h2⟩ := r.obj k a xs e1 e2
    have q : a ≠ p := fun z => by rw [z] at h1; rw [h1] at hp; cases hp
    exact ⟨vs, by rw [upd_ne q]; exact h1, h2.mono sF⟩
  · have q : a ≠ p := fun z => (r.out (.of hp)).2 (by rw [← z]; exact ha)
    rw [upd_ne q]; exact r.dis a ha
  · by_cases q : a = p
    · rw [q, upd_same] at e; cases e; exact n
    · rw [upd_ne q] at e; exact r.ft a u e
theorem Ext.new {p : Addr} {o : HO} (s : Same F H) (hp : H p = none) (n : NT o) : Ext μ F H (upd F p o) (upd H p o) := by
  have nf : ∀ a u, F a = some u → a ≠ p := fun a u e z => by rw [z] at e; rw [s p u e] at hp; cases hp
  refine ⟨fun a u e => by rw [upd_ne (nf a u e)]; exact e, fun a e => upd_ne (goneNone e hp), fun a u e m _ => ?_, fun a e => gone_upd e n⟩
  rw [upd_ne (goneNone (lv e m) hp)]; exact e
/-- a new list at p, one's own -/
theorem Rel.newOwn {S : Store} {p : Addr} {o : HO} (r : Rel K F μ S H) (hp : H p = none) : Rel K F μ S (upd H p o) := by
  refine ⟨fun a u e => ?_, r.len, r.nd, fun k a xs e1 e2 => ?_, r.dis, r.ft, tabs_new r.tab hp, fun k a x fs e1 e2 => (r.ob2 k a x fs e1 e2).to (fun _ _ h => h) (fun _ _ h => h) fun o _ h => by rw [upd_ne (fun z => by rw [z, hp] at h; cases h)]; exact h⟩
  · have q : a ≠ p := fun z => by rw [z] at e; rw [r.sub p u e] at hp; cases hp
    rw [upd_ne q]; exact r.sub a u e
  · obtain ⟨vs, h1, h2⟩ := r.obj k a xs e1 e2
    have q : a ≠ p := fun z => by rw [z] at h1; rw [h1] at hp; cases hp
    exact ⟨vs, by rw [upd_ne q]; exact h1, h2⟩
theorem Ext.newOwn {p : Addr} {o : HO} (hp : H p = none) (n : NT o) : Ext μ F H F (upd H p o) := by
  refine ⟨fun a u e => e, fun a e => rfl, fun a u e m _ => ?_, fun a e => gone_upd e n⟩
  rw [upd_ne (goneNone (lv e m) hp)]; exact e
theorem nt_tup {xs : List V} : NT (.tup xs) := fun _ z => by cases z
theorem nt_lst {xs : List V} : NT (.lst xs) := fun _ z => by cases z
theorem nt_dK {xs : List (Key × V)} : NT (.dK xs) := fun _ z => by cases z
/-- a new tuple -/
theorem okE_tup {S : Store} {ds : List D} {vs : List V} {p : Addr} {Q : VK} (h : okE K xc μ W F H σ (.ok (.t (.tup ds)) S) Q) (r : Rel K F μ S H) (rs : RpL K F vs ds) (hp : H p = none) : Q (.ref p) (upd H p (.tup vs)) :=
  h _ _ _ (Ext.new r.sub hp nt_tup) (r.new hp nt_tup) (.tup (.inl (.inl upd_same)) (rs.mono (Ext.new (μ := μ) r.sub hp nt_tup).fs)) trivial
/-- a new list -/
theorem okE_lst {S : Store} {ds : List D} {vs : List V} {p : Addr} {Q : VK} (h : okE K xc μ W F H σ (.ok (.own (.lst ds)) S) Q) (r : Rel K F μ S H) (rs : RpL K F vs ds) (hp : H p = none) : Q (.ref p) (upd H p (.lst vs)) :=
  h _ _ _ (Ext.newOwn hp nt_lst) (r.newOwn hp) ⟨p, vs, ds, rfl, rfl, upd_same, rs, (r.out (.of hp)).1, (r.out (.of hp)).2⟩ fun a e => by cases e; exact .of hp
/-- a new dict -/
theorem okE_dic {S : Store} {p : Addr} {Q : VK} (h : okE K xc μ W F H σ (.ok (.t .dic) S) Q) (r : Rel K F μ S H) (hp : H p = none) : Q (.ref p) (upd H p (.dK [])) :=
  h _ _ _ (Ext.new r.sub hp nt_dK) (r.new hp nt_dK) (.dic upd_same) trivial
end
end Zw
set_option Elab.async false
set_option linter.all false
set_option maxRecDepth 100000
/-! Zw2: operators, comparisons, built-ins by what the interpreter makes of them. -/
namespace Zw
open PySem PySem.Spec PyProof.Rows L2
theorem line_eq : line = sizeLine := by decide
section
variable {K : PySem.W.Frag} {F : Hp} {μ : List Addr} {S : Store} {H : Hp} {v : V} {b : B} {ds : List D} {d : D}
/-! ### looks -/
theorem look_of_peek (h : b.peek S = some d) : b.look S = some d := by
  cases b with
  | t _ => exact h
  | own _ => exact h
  | bor _ => exact h
  | sc _ => cases h
  | r _ => exact h
theorem pk_lst (r : Rel K F μ S H) (bv : BRp K F μ H v b) (h : b.peek S = some (.lst ds)) : ∃ a xs, v = .ref a ∧ H a = some (.lst xs) ∧ RpL K F xs ds := by
  cases b with
  | t d =>
    cases h
    cases bv with
    | lst h1 h2 => exact ⟨_, _, rfl, r.sub _ _ h1, h2⟩
  | own d =>
    cases h
    obtain ⟨a, xs, es, e, ed, ha, q, _⟩ := bv
    cases ed
    exact ⟨a, xs, e, ha, q⟩
  | bor d =>
    cases h
    obtain ⟨a, xs, es, e, ed, ha, q, _⟩ := bv
    cases ed
    exact ⟨a, xs, e, ha, q⟩
  | sc d => cases h
  | r k =>
    obtain ⟨a, e, hk⟩ := bv
    have h1 : (match S[k]? with | some (.lst xs) => some (D.lst xs) | _ => none) = some (.lst ds) := h
    cases q : S[k]? with
    | none => rw [q] at h1; cases h1
    | some o => cases o with
      | lst ys =>
        rw [q] at h1
        cases h1
        obtain ⟨vs, h2, h3⟩ := r.obj k a ds hk q
        exact ⟨a, vs, e, h2, h3⟩
      | obj _ _ => rw [q] at h1; cases h1
theorem lk_lst (r : Rel K F μ S H) (bv : BRp K F μ H v b) (h : b.look S = some (.lst ds)) : ∃ a xs, v = .ref a ∧ SqL K H a xs ∧ RpL K F xs ds := by
  cases b with
  | sc d =>
    cases h
    obtain ⟨a, xs, es, e, ed, ha, q⟩ := bv
    cases ed
    exact ⟨a, xs, e, ha.sq, q⟩
  | t d => obtain ⟨a, xs, e, h1, h2⟩ := pk_lst r bv h; exact ⟨a, xs, e, SqL.of h1, h2⟩
  | own d => obtain ⟨a, xs, e, h1, h2⟩ := pk_lst r bv h; exact ⟨a, xs, e, SqL.of h1, h2⟩
  | bor d => obtain ⟨a, xs, e, h1, h2⟩ := pk_lst r bv h; exact ⟨a, xs, e, SqL.of h1, h2⟩
  | r k => obtain ⟨a, xs, e, h1, h2⟩ := pk_lst r bv h; exact ⟨a, xs, e, SqL.of h1, h2⟩
/-- what is no list is a tree -/
theorem lk_t (r : Rel K F μ S H) (bv : BRp K F μ H v b) (h : b.look S = some d) (n : ∀ ds, d ≠ .lst ds) : b = .t d ∧ Rp K F v d := by
  cases b with
  | t d' => cases h; exact ⟨rfl, bv⟩
  | own d' => cases h; obtain ⟨a, xs, es, e, ed, _⟩ := bv; exact absurd ed (n es)
  | bor d' => cases h; obtain ⟨a, xs, es, e, ed, _⟩ := bv; exact absurd ed (n es)
  | sc d' => cases h; obtain ⟨a, xs, es, e, ed, _⟩ := bv; exact absurd ed (n es)
  | r k =>
    have h1 : (match S[k]? with | some (.lst xs) => some (D.lst xs) | _ => none) = some d := h
    split at h1
    · cases h1; exact absurd rfl (n _)
    · cases h1
theorem lk_tup (r : Rel K F μ S H) (bv : BRp K F μ H v b) (h : b.look S = some (.tup ds)) : ∃ a xs, v = .ref a ∧ SqT K H a xs ∧ RpL K F xs ds := by
  obtain ⟨_, q⟩ := lk_t r bv h (fun _ z => by cases z)
  cases q with
  | tup h1 h2 =>
    refine ⟨_, _, rfl, ?_, h2⟩
    rcases h1 with (h1 | ⟨o, h1⟩) | h1
    · exact .inl (.inl (r.sub _ _ h1))
    · exact .inl (.inr ⟨o, r.sub _ _ h1⟩)
    · exact .inr h1
theorem lk_int (r : Rel K F μ S H) {i : Int} (bv : BRp K F μ H v b) (h : b.look S = some (.int i)) : v = .int i := rp_int (lk_t r bv h (fun _ z => by cases z)).2
theorem lk_bl (r : Rel K F μ S H) {i : Bool} (bv : BRp K F μ H v b) (h : b.look S = some (.bl i)) : v = .bl i := rp_bl (lk_t r bv h (fun _ z => by cases z)).2
theorem lk_str (r : Rel K F μ S H) {i : Str} (bv : BRp K F μ H v b) (h : b.look S = some (.str i)) : v = .str i := rp_str (lk_t r bv h (fun _ z => by cases z)).2
theorem lk_non (r : Rel K F μ S H) (bv : BRp K F μ H v b) (h : b.look S = some .non) : v = .non := rp_non (lk_t r bv h (fun _ z => by cases z)).2
/-! ### data -/
theorem sqT_sub (s : Same F H) {a : Addr} {xs : List V} (h1 : SqT K F a xs) : SqT K H a xs := by
  rcases h1 with (h1 | ⟨o, h1⟩) | h1
  · exact .inl (.inl (s _ _ h1))
  · exact .inl (.inr ⟨o, s _ _ h1⟩)
  · exact .inr h1
mutual
theorem dp_of (s : Same F H) : ∀ {v : V} {d : D}, Rp K F v d → d.plain = true → Dp K H v d.py
  | _, _, .non, _ => .non
  | _, _, .bl b, _ => .bl b
  | _, _, .int i, _ => .int i
  | _, _, .str x, _ => .str x
  | _, _, .tup h r, p => .tup (sqT_sub s h) (dps_of s r (by rw [D.plain] at p; exact p))
  | _, _, .lst h r, p => .lst (SqL.of (s _ _ h)) (dps_of s r (by rw [D.plain] at p; exact p))
  | _, _, .dic _, p => by rw [D.plain] at p; cases p
  | _, _, .rng _, p => by rw [D.plain] at p; cases p
  | _, _, .dct _ _, p => by rw [D.plain] at p; cases p
  | _, _, .ins _ _ _ _, p => by rw [D.plain] at p; cases p
theorem dps_of (s : Same F H) : ∀ {vs : List V} {ds : List D}, RpL K F vs ds → D.plains ds = true → DpAll K H vs (D.pys ds)
  | _, _, .nil, _ => .nil
  | _, _, .cons h r, p => by
    rw [D.plains] at p
    obtain ⟨p1, p2⟩ := Bool.and_eq_true_iff.mp p
    exact .cons (dp_of s h p1) (dps_of s r p2)
end
theorem lk_dp (r : Rel K F μ S H) (bv : BRp K F μ H v b) (h : b.look S = some d) (p : d.plain = true) : Dp K H v d.py := by
  cases d with
  | lst ds =>
    obtain ⟨a, xs, e, h1, h2⟩ := lk_lst r bv h
    subst e
    exact .lst h1 (dps_of r.sub h2 (by rw [D.plain] at p; exact p))
  | _ => exact dp_of r.sub (lk_t r bv h (fun _ z => by cases z)).2 p
theorem rpl_ints : ∀ {ds : List D} {ns : List Int} {xs : List V}, intsOf ds = some ns → RpL K F xs ds → xs = ns.map V.int
  | [], ns, xs, e, r => by
    cases e
    cases r
    rfl
  | .int i :: ds, ns, xs, e, r => by
    cases q : intsOf ds with
    | none => rw [intsOf, q] at e; cases e
    | some ms =>
      rw [intsOf, q] at e
      cases e
      cases r with
      | cons h t =>
        cases h
        rw [rpl_ints q t]
        rfl
  | .non :: _, _, _, e, _ => by cases e
  | .bl _ :: _, _, _, e, _ => by cases e
  | .str _ :: _, _, _, e, _ => by cases e
  | .tup _ :: _, _, _, e, _ => by cases e
  | .lst _ :: _, _, _, e, _ => by cases e
  | .ins _ _ :: _, _, _, e, _ => by cases e
  | .dic :: _, _, _, e, _ => by cases e
  | .rng _ _ :: _, _, _, e, _ => by cases e
  | .dct _ _ :: _, _, _, e, _ => by cases e
theorem rpl_bls : ∀ {ds : List D} {ns : List Bool} {xs : List V}, blsOf ds = some ns → RpL K F xs ds → xs = ns.map V.bl
  | [], ns, xs, e, r => by
    cases e
    cases r
    rfl
  | .bl i :: ds, ns, xs, e, r => by
    cases q : blsOf ds with
    | none => rw [blsOf, q] at e; cases e
    | some ms =>
      rw [blsOf, q] at e
      cases e
      cases r with
      | cons h t =>
        cases h
        rw [rpl_bls q t]
        rfl
  | .non :: _, _, _, e, _ => by cases e
  | .int _ :: _, _, _, e, _ => by cases e
  | .str _ :: _, _, _, e, _ => by cases e
  | .tup _ :: _, _, _, e, _ => by cases e
  | .lst _ :: _, _, _, e, _ => by cases e
  | .ins _ _ :: _, _, _, e, _ => by cases e
  | .dic :: _, _, _, e, _ => by cases e
  | .rng _ _ :: _, _, _, e, _ => by cases e
  | .dct _ _ :: _, _, _, e, _ => by cases e
theorem flat_rp {v : V} {d : D} (h : Rp K F v d) (f : d.flat = true) : flatV v = true := by
  cases h with
  | tup => cases f
  | lst => cases f
  | dic => cases f
  | rng => cases f
  | dct => cases f
  | ins => cases f
  | _ => rfl
theorem flats_rp : ∀ {vs : List V} {ds : List D}, RpL K F vs ds → ds.all D.flat = true → vs.all flatV = true
  | _, _, .nil, _ => rfl
  | _, _, .cons h r, f => by
    rw [List.all_cons, Bool.and_eq_true] at f
    rw [List.all_cons, Bool.and_eq_true]
    exact ⟨flat_rp h f.1, flats_rp r f.2⟩
theorem eqv_flat {v w : V} {d e : D} (h : Rp K F v d) (k : Rp K F w e) (f : d.flat = true) (g : e.flat = true) : eqV v w = PyData.eqv d.py e.py := by
  cases h with
  | tup => cases f
  | lst => cases f
  | dic => cases f
  | rng => cases f
  | dct => cases f
  | ins => cases f
  | _ => cases k with
    | tup => cases g
    | lst => cases g
    | dic => cases g
    | rng => cases g
    | dct => cases g
    | ins => cases g
    | _ => rfl
theorem in_flat {v : V} {d : D} (h : Rp K F v d) (f : d.flat = true) : ∀ {vs : List V} {ds : List D}, RpL K F vs ds → ds.all D.flat = true → inV v vs = memB d ds
  | _, _, .nil, _ => rfl
  | _, _, .cons (v := w) (vs := vs) (d := e) (ds := ds) q r, g => by
    rw [List.all_cons, Bool.and_eq_true] at g
    have ih := in_flat h f r g.2
    unfold inV memB at *
    rw [List.any_cons, List.any_cons, ih, eqv_flat q h g.1 f]
    rfl
end
section
variable {X : Cx} {K : PySem.W.Frag} {xc : Nat → Option XCls} {W : WX} {F : Hp} {μ : List Addr} {S : Store} {H : Hp} {σ : L2.St} {x y : V} {bx bY : B} {Q : VK}
/-! ### operators -/
def CPowX (i j : Int) : Prop := 0 ≤ j ∧ (Builtin.Int.intBits i : Int) * j ≤ 2 ^ 27
theorem op_powX : OpR X (binaryOp .Pow) (rI CPowX fun i j => .int (i ^ j.toNat)) := opI fun _ _ _ _ _ _ _ hc q => pow_int hc.1 hc.2 q
abbrev rAddS : R2 := fun x y H Q => ∃ i j, x = .str i ∧ y = .str j ∧ i.length + j.length ≤ sizeLine ∧ Q (.str (i ++ j)) H
abbrev rAddA (K : PySem.W.Frag) : R2 := fun x y H Q => rI0 (fun i j => .int (i + j)) x y H Q ∨ (rAddS x y H Q ∨ (rCat x y H Q ∨ rCatA K x y H Q))
theorem op_addA : OpR X (binaryOp .Add) (rAddA X.K) := op_add.or (op_add_str.or (op_cat.or op_catA))
abbrev rMulA (K : PySem.W.Frag) : R2 := fun x y H Q => rI CMulW (fun i j => .int (i * j)) x y H Q ∨ (rRep x y H Q ∨ rRepT K x y H Q)
theorem op_mulA : OpR X (binaryOp .Mult) (rMulA X.K) := op_mulW.or (op_rep.or op_repT)
/-- what an operator of the interpreter does by values -/
def g2 (op : Op2) (x y : B) (s : Store) : R B := .of ((x.peek s).bind fun x => (y.peek s).bind fun y => op2 op x y) s
def c2 (op : Cm) (x y : B) (s : Store) : R B := .of ((x.peek s).bind fun x => (y.peek s).bind fun y => (cmp2 op x y).map fun b => .t (.bl b)) s
theorem of_some {α : Type} {o : Option α} {s : Store} {F H : Hp} {σ : L2.St} {P : R α → Prop} (h : P (.of o s)) (hb : ¬ P .bad) : ∃ a, o = some a ∧ P (.ok a s) := by
  cases o with
  | none => exact absurd h hb
  | some a => exact ⟨a, rfl, h⟩
theorem g2_some {op : Op2} (h : okE K xc μ W F H σ (g2 op bx bY S) Q) : ∃ d e b, bx.peek S = some d ∧ bY.peek S = some e ∧ op2 op d e = some b ∧ okE K xc μ W F H σ (.ok b S) Q := by
  obtain ⟨b, e, h⟩ := of_some (F := F) (H := H) (σ := σ) (P := fun r => okE K xc μ W F H σ r Q) h (fun z => z)
  cases q : bx.peek S with
  | none => rw [q] at e; cases e
  | some d =>
    rw [q] at e
    cases q2 : bY.peek S with
    | none => rw [q2] at e; cases e
    | some d' => rw [q2] at e; exact ⟨d, d', b, rfl, rfl, e, h⟩
theorem c2_some {op : Cm} (h : okE K xc μ W F H σ (c2 op bx bY S) Q) : ∃ d e b, bx.peek S = some d ∧ bY.peek S = some e ∧ cmp2 op d e = some b ∧ okE K xc μ W F H σ (.ok (.t (.bl b)) S) Q := by
  obtain ⟨b, e, h⟩ := of_some (F := F) (H := H) (σ := σ) (P := fun r => okE K xc μ W F H σ r Q) h (fun z => z)
  cases q : bx.peek S with
  | none => rw [q] at e; cases e
  | some d =>
    rw [q] at e
    cases q2 : bY.peek S with
    | none => rw [q2] at e; cases e
    | some d' =>
      rw [q2] at e
      obtain ⟨k, e1, e2⟩ := Option.map_eq_some_iff.mp e
      subst e2
      exact ⟨d, d', k, rfl, rfl, e1, h⟩
theorem hop_add (r : Rel K F μ S H) (hx : BRp K F μ H x bx) (hy : BRp K F μ H y bY) (h : okE K xc μ W F H σ (g2 .add bx bY S) Q) : rAddA K x y H Q := by
  obtain ⟨d, e, b, p1, p2, e2, h⟩ := g2_some h
  have e3 : opAdd d e = some b := e2
  unfold opAdd at e3
  split at e3
  · cases e3
    rw [lk_int r hx (look_of_peek p1), lk_int r hy (look_of_peek p2)]
    exact .inl ⟨_, _, rfl, rfl, okE_val h r (.int _) trivial⟩
  · split at e3
    · cases e3
      rename_i hl
      rw [lk_str r hx (look_of_peek p1), lk_str r hy (look_of_peek p2)]
      exact .inr (.inl ⟨_, _, rfl, rfl, by rw [← line_eq]; exact hl, okE_val h r (.str _) trivial⟩)
    · cases e3
  · split at e3
    · cases e3
      rename_i hl
      obtain ⟨a, xs, ea, ha, ra⟩ := pk_lst r hx p1
      obtain ⟨c, ys, ec, hc, rc⟩ := pk_lst r hy p2
      exact .inr (.inr (.inl ⟨a, c, xs, ys, ea, ec, ha, hc, by rw [ra.length, rc.length, ← line_eq]; exact hl, fun p hp => okE_lst h r (ra.append rc) hp⟩))
    · cases e3
  · split at e3
    · cases e3
      rename_i hl
      obtain ⟨a, xs, ea, ha, ra⟩ := lk_tup r hx (look_of_peek p1)
      obtain ⟨c, ys, ec, hc, rc⟩ := lk_tup r hy (look_of_peek p2)
      obtain ⟨_, tx⟩ := lk_t r hx (look_of_peek p1) (fun _ z => by cases z)
      obtain ⟨_, ty⟩ := lk_t r hy (look_of_peek p2) (fun _ z => by cases z)
      refine .inr (.inr (.inr ⟨a, c, xs, ys, ea, ec, ha, hc, by rw [ra.length, rc.length, ← line_eq]; exact hl, fun z => ?_, fun _ z => ?_, fun _ _ p hp => okE_tup h r (ra.append rc) hp⟩))
      · have z2 := ra.nil_iff.mp z
        subst z2
        rw [← ec]
        exact okE_val h r ty trivial
      · have z2 := rc.nil_iff.mp z
        subst z2
        rw [List.append_nil] at h
        rw [← ea]
        exact okE_val h r tx trivial
    · cases e3
  · cases e3
theorem hop_sub (r : Rel K F μ S H) (hx : BRp K F μ H x bx) (hy : BRp K F μ H y bY) (h : okE K xc μ W F H σ (g2 .sub bx bY S) Q) : rI0 (fun i j => .int (i - j)) x y H Q := by
  obtain ⟨d, e, b, p1, p2, e2, h⟩ := g2_some h
  have e3 : opSub d e = some b := e2
  unfold opSub at e3
  split at e3
  · cases e3
    rw [lk_int r hx (look_of_peek p1), lk_int r hy (look_of_peek p2)]
    exact ⟨_, _, rfl, rfl, okE_val h r (.int _) trivial⟩
  · cases e3
theorem mul_ok {i j : Int} (h : mulOk i j = true) : CMulW i j := by
  unfold mulOk at h
  have h2 := of_decide_eq_true h
  exact h2
theorem hop_mul (r : Rel K F μ S H) (hx : BRp K F μ H x bx) (hy : BRp K F μ H y bY) (h : okE K xc μ W F H σ (g2 .mul bx bY S) Q) : rMulA K x y H Q := by
  obtain ⟨d, e, b, p1, p2, e2, h⟩ := g2_some h
  have e3 : opMul d e = some b := e2
  unfold opMul at e3
  split at e3
  · split at e3
    · cases e3
      rename_i hl
      rw [lk_int r hx (look_of_peek p1), lk_int r hy (look_of_peek p2)]
      exact .inl ⟨_, _, rfl, rfl, mul_ok hl, okE_val h r (.int _) trivial⟩
    · cases e3
  · split at e3
    · cases e3
      rename_i hl
      obtain ⟨a, xs, ea, ha, ra⟩ := pk_lst r hx p1
      rw [lk_int r hy (look_of_peek p2)]
      exact .inr (.inl ⟨a, _, xs, ea, rfl, ha, by omega, by omega, by rw [ra.length, ← line_eq]; exact hl.2.2, fun p hp => okE_lst h r (ra.rep _) hp⟩)
    · cases e3
  · split at e3
    · cases e3
      rename_i hl
      obtain ⟨a, xs, ea, ha, ra⟩ := lk_tup r hx (look_of_peek p1)
      rw [lk_int r hy (look_of_peek p2)]
      refine .inr (.inr ⟨a, _, xs, ea, rfl, ha, fun z => hl.1 ?_, hl.2.1, hl.2.2.1, by rw [ra.length]; exact hl.2.2.2, fun p hp => okE_tup h r (ra.rep _) hp⟩)
      rw [← ra.length, z]
      rfl
    · cases e3
  · cases e3
theorem hop_mod (r : Rel K F μ S H) (hx : BRp K F μ H x bx) (hy : BRp K F μ H y bY) (h : okE K xc μ W F H σ (g2 .mod bx bY S) Q) : rI (fun _ j => 0 < j) (fun i j => .int (i % j)) x y H Q := by
  obtain ⟨d, e, b, p1, p2, e2, h⟩ := g2_some h
  have e3 : opMod d e = some b := e2
  unfold opMod at e3
  split at e3
  · split at e3
    · cases e3
      rename_i hl
      rw [lk_int r hx (look_of_peek p1), lk_int r hy (look_of_peek p2)]
      exact ⟨_, _, rfl, rfl, hl, okE_val h r (.int _) trivial⟩
    · cases e3
  · cases e3
theorem hop_fdiv (r : Rel K F μ S H) (hx : BRp K F μ H x bx) (hy : BRp K F μ H y bY) (h : okE K xc μ W F H σ (g2 .fdiv bx bY S) Q) : rI CDivW (fun i j => .int (i / j)) x y H Q := by
  obtain ⟨d, e, b, p1, p2, e2, h⟩ := g2_some h
  have e3 : opFdiv d e = some b := e2
  unfold opFdiv at e3
  split at e3
  · split at e3
    · cases e3
      rename_i hl
      rw [lk_int r hx (look_of_peek p1), lk_int r hy (look_of_peek p2)]
      exact ⟨_, _, rfl, rfl, hl, okE_val h r (.int _) trivial⟩
    · cases e3
  · cases e3
theorem intBits_le (i : Int) : Builtin.Int.intBits i ≤ i.natAbs.log2 + 1 := by
  unfold Builtin.Int.intBits
  split <;> omega
theorem hop_pow (r : Rel K F μ S H) (hx : BRp K F μ H x bx) (hy : BRp K F μ H y bY) (h : okE K xc μ W F H σ (g2 .pow bx bY S) Q) : rI CPowX (fun i j => .int (i ^ j.toNat)) x y H Q := by
  obtain ⟨d, e, b, p1, p2, e2, h⟩ := g2_some h
  have e3 : opPow d e = some b := e2
  unfold opPow at e3
  split at e3
  · split at e3
    · cases e3
      rename_i i j hl
      rw [lk_int r hx (look_of_peek p1), lk_int r hy (look_of_peek p2)]
      unfold powOk at hl
      rw [Bool.and_eq_true] at hl
      have h1 := of_decide_eq_true hl.1
      have h2 := of_decide_eq_true hl.2
      refine ⟨_, _, rfl, rfl, ⟨h1, ?_⟩, okE_val h r (.int _) trivial⟩
      have h3 : (Builtin.Int.intBits i : Int) * j ≤ ((i.natAbs.log2 + 1 : Nat) : Int) * j := Int.mul_le_mul_of_nonneg_right (Int.ofNat_le.mpr (intBits_le i)) h1
      omega
    · cases e3
  · cases e3
/-! ### comparisons -/
abbrev rLtA (K : PySem.W.Frag) : R2 := fun x y H Q => rI0 (fun i j => .bl (decide (i < j))) x y H Q ∨ rLtT K x y H Q
theorem op_ltA (hu : X.A.units < cLine) : OpR X (compareOp .Lt) (rLtA X.K) := op_lt.or (op_ltT hu)
theorem hop_eq (r : Rel K F μ S H) (hx : BRp K F μ H x bx) (hy : BRp K F μ H y bY) (h : okE K xc μ W F H σ (c2 .eq bx bY S) Q) : rEqD K x y H Q ∨ rEq x y H Q := by
  obtain ⟨d, e, b, p1, p2, e2, h⟩ := c2_some h
  have e3 : (if eqOk d e then some (eqB d e) else none) = some b := e2
  split at e3
  · cases e3
    rename_i hl
    unfold eqOk at hl
    rcases Bool.or_eq_true_iff.mp hl with hl | hl
    · cases d with
      | str i => cases e with
        | str j =>
          rw [lk_str r hx (look_of_peek p1), lk_str r hy (look_of_peek p2)]
          refine .inr ⟨rfl, ?_⟩
          rw [dec_str]
          have q : eqB (.str i) (.str j) = (i == j) := by unfold eqB; rw [D.py, D.py, PyData.eqv]
          rw [q] at h
          exact okE_val h r (.bl _) trivial
        | _ => cases hl
      | _ => cases hl
    simp only [Bool.and_eq_true] at hl
    exact .inl ⟨_, _, lk_dp r hx (look_of_peek p1) hl.1.1.1, lk_dp r hy (look_of_peek p2) hl.1.1.2, hl.1.2, hl.2, okE_val h r (.bl _) trivial⟩
  · cases e3
theorem hop_ne (r : Rel K F μ S H) (hx : BRp K F μ H x bx) (hy : BRp K F μ H y bY) (h : okE K xc μ W F H σ (c2 .ne bx bY S) Q) : rNeD K x y H Q ∨ rNe x y H Q := by
  obtain ⟨d, e, b, p1, p2, e2, h⟩ := c2_some h
  have e3 : (if eqOk d e then some (!eqB d e) else none) = some b := e2
  split at e3
  · cases e3
    rename_i hl
    unfold eqOk at hl
    rcases Bool.or_eq_true_iff.mp hl with hl | hl
    · cases d with
      | str i => cases e with
        | str j =>
          rw [lk_str r hx (look_of_peek p1), lk_str r hy (look_of_peek p2)]
          refine .inr ⟨rfl, ?_⟩
          rw [dec_str]
          have q : eqB (.str i) (.str j) = (i == j) := by unfold eqB; rw [D.py, D.py, PyData.eqv]
          rw [q] at h
          exact okE_val h r (.bl _) trivial
        | _ => cases hl
      | _ => cases hl
    simp only [Bool.and_eq_true] at hl
    exact .inl ⟨_, _, lk_dp r hx (look_of_peek p1) hl.1.1.1, lk_dp r hy (look_of_peek p2) hl.1.1.2, hl.1.2, hl.2, okE_val h r (.bl _) trivial⟩
  · cases e3
theorem lex_eq : ∀ xs ys : List Int, lexLt xs ys = HT.lexLt xs ys
  | [], [] => rfl
  | [], _ :: _ => rfl
  | _ :: _, [] => rfl
  | x :: xs, y :: ys => by
    unfold lexLt HT.lexLt
    rw [lex_eq xs ys]
theorem hop_lt (r : Rel K F μ S H) (hx : BRp K F μ H x bx) (hy : BRp K F μ H y bY) (h : okE K xc μ W F H σ (c2 .lt bx bY S) Q) : rLtA K x y H Q := by
  obtain ⟨d, e, b, p1, p2, e2, h⟩ := c2_some h
  have e3 : cmLt d e = some b := e2
  unfold cmLt at e3
  split at e3
  · cases e3
    rw [lk_int r hx (look_of_peek p1), lk_int r hy (look_of_peek p2)]
    exact .inl ⟨_, _, rfl, rfl, okE_val h r (.bl _) trivial⟩
  · split at e3
    · cases e3
      rename_i h1 h2
      obtain ⟨a, xs, ea, ha, ra⟩ := lk_tup r hx (look_of_peek p1)
      obtain ⟨c, ys, ec, hc, rc⟩ := lk_tup r hy (look_of_peek p2)
      rw [rpl_ints h1 ra] at ha
      rw [rpl_ints h2 rc] at hc
      rw [lex_eq] at h
      exact .inr ⟨a, c, _, _, ea, ec, ha, hc, okE_val h r (.bl _) trivial⟩
    · cases e3
  · cases e3
theorem hop_cmI {p : Int → Int → Bool} {op : Cm} (he : cmp2 op = cmI p) (r : Rel K F μ S H) (hx : BRp K F μ H x bx) (hy : BRp K F μ H y bY) (h : okE K xc μ W F H σ (c2 op bx bY S) Q) : rI0 (fun i j => .bl (p i j)) x y H Q := by
  obtain ⟨d, e, b, p1, p2, e2, h⟩ := c2_some h
  rw [he] at e2
  unfold cmI at e2
  split at e2
  · cases e2
    rw [lk_int r hx (look_of_peek p1), lk_int r hy (look_of_peek p2)]
    exact ⟨_, _, rfl, rfl, okE_val h r (.bl _) trivial⟩
  · cases e2
theorem non_iff (r : Rel K F μ S H) {v : V} {b : B} {d : D} (bv : BRp K F μ H v b) (h : b.look S = some d) : decide (v = .non) = d.isNon := by
  cases d with
  | lst ds =>
    obtain ⟨a, xs, e, _⟩ := lk_lst r bv h
    rw [e]; rfl
  | tup ds =>
    obtain ⟨a, xs, e, _⟩ := lk_tup r bv h
    rw [e]; rfl
  | dic =>
    obtain ⟨_, h2⟩ := lk_t r bv h (fun _ z => by cases z)
    cases h2
    rfl
  | rng =>
    obtain ⟨_, h2⟩ := lk_t r bv h (fun _ z => by cases z)
    cases h2
    rfl
  | dct =>
    obtain ⟨_, h2⟩ := lk_t r bv h (fun _ z => by cases z)
    cases h2
    rfl
  | non => rw [lk_non r bv h]; rfl
  | bl _ => rw [lk_bl r bv h]; rfl
  | int _ => rw [lk_int r bv h]; rfl
  | str _ => rw [lk_str r bv h]; rfl
  | ins _ _ =>
    obtain ⟨_, q⟩ := lk_t r bv h (fun _ z => by cases z)
    cases q
    rfl
theorem beq_t (b : Bool) : (b == true) = b := by cases b <;> rfl
theorem beq_f (b : Bool) : (b == false) = !b := by cases b <;> rfl
theorem bl_iff (k : Bool) (r : Rel K F μ S H) {v : V} {b : B} {d : D} (bv : BRp K F μ H v b) (h : b.look S = some d) : decide (v = .bl k) = d.isBl k := by
  cases d with
  | lst ds =>
    obtain ⟨a, xs, e, _⟩ := lk_lst r bv h
    rw [e]; rfl
  | tup ds =>
    obtain ⟨a, xs, e, _⟩ := lk_tup r bv h
    rw [e]; rfl
  | dic =>
    obtain ⟨_, h2⟩ := lk_t r bv h (fun _ z => by cases z)
    cases h2
    rfl
  | rng =>
    obtain ⟨_, h2⟩ := lk_t r bv h (fun _ z => by cases z)
    cases h2
    rfl
  | dct =>
    obtain ⟨_, h2⟩ := lk_t r bv h (fun _ z => by cases z)
    cases h2
    rfl
  | non => rw [lk_non r bv h]; rfl
  | bl j => rw [lk_bl r bv h]; cases j <;> cases k <;> rfl
  | int _ => rw [lk_int r bv h]; rfl
  | str _ => rw [lk_str r bv h]; rfl
  | ins _ _ =>
    obtain ⟨_, q⟩ := lk_t r bv h (fun _ z => by cases z)
    cases q
    rfl
/-- is: the right side none or a bool -/
def rIsB (neg : Bool) : L2.R2 := fun x y H Q => (y = .non ∧ Q (.bl (decide (x = .non) != neg)) H) ∨ (∃ j, y = .bl j ∧ Q (.bl (decide (x = .bl j) != neg)) H)
theorem op_isB {X : Cx} : OpR X (compareOp .Is) (rIsB false) := by
  intro pins s σ H x y v u Q I rx ry h
  rcases h with ⟨rfl, q⟩ | ⟨j, rfl, q⟩
  · exact op_isN pins s σ H x .non v u Q I rx ry ⟨rfl, by simpa using q⟩
  · cases (show u = Value.bool j from ry)
    refine PySem.wpAny_is_plain ?_ (fin_bl I q ?_)
    · cases x <;> first
        | (cases rx; rfl)
        | (obtain ⟨t, rfl⟩ := rx; rfl)
    · cases x <;> first
        | (obtain ⟨t, rfl⟩ := rx; rfl)
        | (cases rx; cases j <;> rfl)
        | (rename_i b; cases rx; cases b <;> cases j <;> rfl)
theorem op_notB {X : Cx} : OpR X (compareOp .IsNot) (rIsB true) := by
  intro pins s σ H x y v u Q I rx ry h
  rcases h with ⟨rfl, q⟩ | ⟨j, rfl, q⟩
  · exact op_notN pins s σ H x .non v u Q I rx ry ⟨rfl, by simpa using q⟩
  · cases (show u = Value.bool j from ry)
    refine PySem.wpAny_isNot_plain ?_ (fin_bl I q ?_)
    · cases x <;> first
        | (cases rx; rfl)
        | (obtain ⟨t, rfl⟩ := rx; rfl)
    · cases x <;> first
        | (obtain ⟨t, rfl⟩ := rx; rfl)
        | (cases rx; cases j <;> rfl)
        | (rename_i b; cases rx; cases b <;> cases j <;> rfl)
theorem hop_isN (r : Rel K F μ S H) (hx : BRp K F μ H x bx) (hy : BRp K F μ H y bY) (h : okE K xc μ W F H σ (c2 .isN bx bY S) Q) : rIsB false x y H Q := by
  obtain ⟨d, e, b, p1, p2, e2, h⟩ := c2_some h
  have e3 : cmN true d e = some b := e2
  unfold cmN at e3
  split at e3
  · cases e3
    refine .inl ⟨lk_non r hy (look_of_peek p2), ?_⟩
    rw [non_iff r hx (look_of_peek p1)]
    have := okE_val h r (.bl _) trivial
    rw [beq_t] at this
    simpa using this
  · cases e3
    refine .inr ⟨_, lk_bl r hy (look_of_peek p2), ?_⟩
    rw [bl_iff _ r hx (look_of_peek p1)]
    have := okE_val h r (.bl _) trivial
    rw [beq_t] at this
    simpa using this
  · cases e3
theorem hop_notN (r : Rel K F μ S H) (hx : BRp K F μ H x bx) (hy : BRp K F μ H y bY) (h : okE K xc μ W F H σ (c2 .notN bx bY S) Q) : rIsB true x y H Q := by
  obtain ⟨d, e, b, p1, p2, e2, h⟩ := c2_some h
  have e3 : cmN false d e = some b := e2
  unfold cmN at e3
  split at e3
  · cases e3
    refine .inl ⟨lk_non r hy (look_of_peek p2), ?_⟩
    rw [non_iff r hx (look_of_peek p1)]
    have := okE_val h r (.bl _) trivial
    rw [beq_f] at this
    simpa using this
  · cases e3
    refine .inr ⟨_, lk_bl r hy (look_of_peek p2), ?_⟩
    rw [bl_iff _ r hx (look_of_peek p1)]
    have := okE_val h r (.bl _) trivial
    rw [beq_f] at this
    simpa using this
  · cases e3
/-! ### dicts that stay -/
theorem lk_dct (r : Rel K F μ S H) (bv : BRp K F μ H v b) {ks vs : List D} (h : b.look S = some (.dct ks vs)) : ∃ a kvs, v = .ref a ∧ H a = some (.dK kvs) ∧ ks = kvs.map (fun p => keyD p.1) ∧ RpL K F (kvs.map (·.2)) vs := by
  obtain ⟨_, q⟩ := lk_t r bv h (fun _ z => by cases z)
  generalize e : D.dct ks vs = d at q
  cases q with
  | dct h1 h2 => cases e; exact ⟨_, _, rfl, r.sub _ _ h1, rfl, h2⟩
  | _ => cases e
theorem key_eq (a b : Key) : keyEq (keyD a) (keyD b) = decide (a = b) := by
  cases a <;> cases b <;> simp [keyD, keyEq]
theorem key_rp {v : V} {d : D} (h : Rp K F v d) (k : keyOk d = true) : ∃ q, d = keyD q ∧ v = kV q := by
  cases h with
  | int i => exact ⟨.inl i, rfl, rfl⟩
  | str x => exact ⟨.inr x, rfl, rfl⟩
  | _ => cases k
theorem dct_get (q : Key) : ∀ {kvs : List (Key × V)} {ds : List D}, RpL K F (kvs.map (·.2)) ds → (∀ d, dctGet (keyD q) (kvs.map fun p => keyD p.1) ds = some d → ∃ v, valV kvs q = some v ∧ Rp K F v d) ∧ (dctGet (keyD q) (kvs.map fun p => keyD p.1) ds).isSome = (valV kvs q).isSome
  | [], _, .nil => ⟨fun d e => by simp [dctGet] at e, by simp [dctGet, valV]⟩
  | p :: kvs, _, .cons (d := d0) (ds := ds) h r => by
    obtain ⟨h1, h2⟩ := dct_get q r
    by_cases e : p.1 = q
    · have q1 : dctGet (keyD q) ((p :: kvs).map fun p => keyD p.1) (d0 :: ds) = some d0 := by
        simp [dctGet, key_eq, e]
      rw [q1, valV_pos e]
      exact ⟨fun d z => by cases z; exact ⟨_, rfl, h⟩, rfl⟩
    · have q1 : dctGet (keyD q) ((p :: kvs).map fun p => keyD p.1) (d0 :: ds) = dctGet (keyD q) (kvs.map fun p => keyD p.1) ds := by
        simp [dctGet, key_eq, e]
      rw [q1, valV_neg e]
      exact ⟨h1, h2⟩
def rDIn (neg : Bool) : L2.R2 := fun x y H Q => ∃ a o, y = .ref a ∧ DGet H a x o ∧ Q (.bl (if neg then !o.isSome else o.isSome)) H
theorem op_in_dct {X : Cx} (hu : X.A.units + 1 < cLine) : OpR X (compareOp .In) (rDIn false) := by
  intro pins s σ H x y v u Q I rx ry h
  obtain ⟨a, o, rfl, g, q⟩ := h
  cases (show u = Value.ref a from ry)
  exact d_in hu I g rx fun s' I' => ⟨.bl o.isSome, H, I', rfl, q⟩
theorem op_notIn_dct {X : Cx} (hu : X.A.units + 1 < cLine) : OpR X (compareOp .NotIn) (rDIn true) := by
  intro pins s σ H x y v u Q I rx ry h
  obtain ⟨a, o, rfl, g, q⟩ := h
  cases (show u = Value.ref a from ry)
  exact d_notIn hu I g rx fun s' I' => ⟨.bl (!o.isSome), H, I', rfl, q⟩
theorem hop_in {k : Bool} {op : Cm} (he : cmp2 op = cmIn k) (r : Rel K F μ S H) (hx : BRp K F μ H x bx) (hy : BRp K F μ H y bY) (h : okE K xc μ W F H σ (c2 op bx bY S) Q) : rIn K (!k) x y H Q ∨ rDIn (!k) x y H Q := by
  obtain ⟨d, e, b, p1, p2, e2, h⟩ := c2_some h
  rw [he] at e2
  have fin : ∀ {p : Addr} {xs : List V} {ds : List D}, y = .ref p → (SqL K H p xs ∨ SqT K H p xs) → RpL K F xs ds → memOk d ds = true → okE K xc μ W F H σ (.ok (.t (.bl (memB d ds == k))) S) Q → rIn K (!k) x y H Q := by
    intro p xs ds ey hs rs hm h
    unfold memOk at hm
    rw [Bool.and_eq_true] at hm
    obtain ⟨_, qx⟩ := lk_t r hx (look_of_peek p1) (fun _ z => by rw [z] at hm; cases hm.1)
    refine ⟨p, xs, ey, hs, flat_rp qx hm.1, flats_rp rs hm.2, ?_⟩
    rw [in_flat qx hm.1 rs hm.2]
    have := okE_val h r (.bl _) trivial
    cases k with
    | true => rwa [beq_t] at this
    | false => rwa [beq_f] at this
  unfold cmIn at e2
  split at e2
  · split at e2
    · cases e2
      rename_i hm
      obtain ⟨a, xs, ea, ha, ra⟩ := lk_lst r hy (look_of_peek p2)
      exact .inl (fin ea (.inl ha) ra hm h)
    · cases e2
  · split at e2
    · cases e2
      rename_i hm
      obtain ⟨a, xs, ea, ha, ra⟩ := lk_tup r hy (look_of_peek p2)
      exact .inl (fin ea (.inr ha) ra hm h)
    · cases e2
  · split at e2
    · cases e2
      rename_i ks vs hm
      obtain ⟨_, qx⟩ := lk_t r hx (look_of_peek p1) (fun _ z => by rw [z] at hm; cases hm)
      obtain ⟨q, ed, ev⟩ := key_rp qx hm
      obtain ⟨a, kvs, ea, ha, ek, ra⟩ := lk_dct r hy (look_of_peek p2)
      refine .inr ⟨a, valV kvs q, ea, by rw [ev]; exact DGet.k ha, ?_⟩
      have h2 := (dct_get q ra).2
      have := okE_val h r (.bl _) trivial
      rw [ed, ek, h2] at this
      cases k with
      | true => rw [beq_t] at this; simpa using this
      | false => rw [beq_f] at this; simpa using this
    · cases e2
  · cases e2
/-! ### truth -/
theorem tru_of (r : Rel K F μ S H) {v : V} {b : B} {k : Bool} (bv : BRp K F μ H v b) (h : truB b S = some k) : TruV K v H k := by
  unfold truB at h
  cases q : b.look S with
  | none => rw [q] at h; cases h
  | some d =>
    rw [q] at h
    have h : d.tru = some k := h
    cases d with
    | dic => cases h
    | rng => cases h
    | dct => cases h
    | non => cases h; rw [lk_non r bv q]; rfl
    | bl _ => cases h; rw [lk_bl r bv q]; rfl
    | int _ => cases h; rw [lk_int r bv q]; rfl
    | str s =>
      have h' : (if s.length ≤ line then some (s.length != 0) else none) = some k := h
      by_cases hl : s.length ≤ line
      · rw [if_pos hl] at h'
        have hk := Option.some.inj h'
        rw [lk_str r bv q, ← hk]
        refine ⟨by rw [← line_eq]; exact hl, ?_⟩
        by_cases z : s.length = 0
        · rw [z]; rfl
        · have z2 : ¬ ((s.length : Int) = 0) := by omega
          rw [bne_iff_ne.mpr z, bne_iff_ne.mpr z2]
      · rw [if_neg hl] at h'
        cases h'
    | tup ds =>
      cases h
      obtain ⟨a, xs, e, h1, h2⟩ := lk_tup r bv q
      rw [e]
      refine .inr (.inl ⟨xs, h1, ?_⟩)
      cases h2 <;> rfl
    | lst ds =>
      cases h
      obtain ⟨a, xs, e, h1, h2⟩ := lk_lst r bv q
      rw [e]
      refine .inl ⟨xs, h1, ?_⟩
      cases h2 <;> rfl
    | ins _ _ => cases h
end
end Zw
set_option Elab.async false
set_option linter.all false
set_option maxRecDepth 100000
/-! Zw3: built-ins called, defs called. -/
namespace Zw
open PySem PySem.Spec PyProof.Rows L2
/-! ### the frozen -/
section
variable {K : PySem.W.Frag} {xc : Nat → Option XCls} {W : WX} {F : Hp} {μ : List Addr} {S : Store} {H : Hp} {σ : L2.St}
theorem Rel.still {S : Store} {F1 H1 : Hp} {a : Addr} {xs : List V} (r : Rel K F1 μ S H1) (ha : H1 a = some (.lst xs)) (n : F1 a = none) (m : a ∉ μ) : Rel K (upd F1 a (.lst xs)) μ S H1 := by
  have s : Same F1 (upd F1 a (.lst xs)) := fun b o e => by
    have q : b ≠ a := fun z => by rw [z, n] at e; cases e
    rw [upd_ne q]; exact e
  refine ⟨fun b o e => ?_, r.len, r.nd, fun k b ys e1 e2 => ?_, fun b hb => ?_, fun b o e => ?_, r.tab, fun k b x fs e1 e2 => (r.ob2 k b x fs e1 e2).to s (fun _ _ h => h) fun _ _ h => h⟩
  rotate_right
  · by_cases q : b = a
    · rw [q, upd_same] at e; cases e; exact nt_lst
    · rw [upd_ne q] at e; exact r.ft b o e
  · by_cases q : b = a
    · rw [q, upd_same] at e; rw [q, ha]; exact e
    · rw [upd_ne q] at e; exact r.sub b o e
  · obtain ⟨vs, h1, h2⟩ := r.obj k b ys e1 e2
    exact ⟨vs, h1, h2.mono s⟩
  · have q : b ≠ a := fun z => m (by rw [← z]; exact hb)
    rw [upd_ne q]; exact r.dis b hb
theorem Ext.still {F1 H1 : Hp} {a : Addr} {xs : List V} (x : Ext μ F H F1 H1) (n : F1 a = none) (h : Gone H a) : Ext μ F H (upd F1 a (.lst xs)) H1 := by
  refine ⟨fun b o e => ?_, fun b hb => ?_, x.keep, x.live⟩
  · have e1 := x.fs b o e
    have q : b ≠ a := fun z => by rw [z, n] at e1; cases e1
    rw [upd_ne q]; exact e1
  · have q : b ≠ a := goneNe hb h
    rw [upd_ne q]; exact x.fn b hb
/-- a fresh list may be taken for a tree -/
theorem okE_still {r : R B} {Q : VK} (h : okE K xc μ W F H σ (r.bind fun b s => .ok b.still s) Q) : okE K xc μ W F H σ r Q := by
  cases r with
  | ok b S1 =>
    intro F1 H1 v x r1 bv fr
    cases b with
    | own d =>
      obtain ⟨a, xs, ds, e, ed, ha, rs, n, m⟩ := bv
      have hn : Gone H a := fr a e
      refine h (upd F1 a (.lst xs)) H1 v (x.still n hn) (r1.still ha n m) ?_ trivial
      show Rp K _ v d
      rw [e, ed]
      exact .lst upd_same (rs.mono (fun b o e => by
        have q : b ≠ a := fun z => by rw [z, n] at e; cases e
        rw [upd_ne q]; exact e))
    | t d => exact h F1 H1 v x r1 bv fr
    | bor d => exact h F1 H1 v x r1 bv fr
    | sc d => exact h F1 H1 v x r1 bv fr
    | r k => exact h F1 H1 v x r1 bv fr
  | ex c p S1 => exact h
  | bad => exact h
theorem still_frz {b : B} {d : D} (h : b.frz = some d) : b.still = .t d := by
  cases b with
  | t _ => cases h; rfl
  | own _ => cases h; rfl
  | bor _ => cases h
  | sc _ => cases h
  | r _ => cases h
end
/-! ### built-ins -/
section
variable {X : Cx} {K : PySem.W.Frag} {xc : Nat → Option XCls} {W : WX} {F : Hp} {μ : List Addr} {S : Store} {H : Hp} {σ : L2.St} {x y : V} {bx bY : B} {Q : VK}
def h1 (f : Bi) (x : B) (s : Store) : R B := .of ((x.look s).bind (bi1 f)) s
def h2 (f : Bi) (x y : B) (s : Store) : R B := .of ((x.peek s).bind fun x => (y.peek s).bind (bi2 f x)) s
theorem h1_some {f : Bi} (h : okE K xc μ W F H σ (h1 f bx S) Q) : ∃ d b, bx.look S = some d ∧ bi1 f d = some b ∧ okE K xc μ W F H σ (.ok b S) Q := by
  obtain ⟨b, e, h⟩ := of_some (F := F) (H := H) (σ := σ) (P := fun r => okE K xc μ W F H σ r Q) h (fun z => z)
  cases q : bx.look S with
  | none => rw [q] at e; cases e
  | some d => rw [q] at e; exact ⟨d, b, rfl, e, h⟩
theorem h2_some {f : Bi} (h : okE K xc μ W F H σ (h2 f bx bY S) Q) : ∃ d e b, bx.peek S = some d ∧ bY.peek S = some e ∧ bi2 f d e = some b ∧ okE K xc μ W F H σ (.ok b S) Q := by
  obtain ⟨b, e, h⟩ := of_some (F := F) (H := H) (σ := σ) (P := fun r => okE K xc μ W F H σ r Q) h (fun z => z)
  cases q : bx.peek S with
  | none => rw [q] at e; cases e
  | some d =>
    rw [q] at e
    cases q2 : bY.peek S with
    | none => rw [q2] at e; cases e
    | some d' => rw [q2] at e; exact ⟨d, d', b, rfl, rfl, e, h⟩
abbrev RV1 := List V → Hp → VK → Prop
abbrev rLenA (K : PySem.W.Frag) : RV1 := fun xs H Q => (∃ p ys, xs = [.ref p] ∧ (SqL K H p ys ∨ SqT K H p ys) ∧ Q (.int ys.length) H) ∨ (∃ z, xs = [.str z] ∧ z.length ≤ sizeLine ∧ Q (.int z.length) H)
theorem call_lenA : CallR X (.builtin "len") (rLenA X.K) := call_len_seq.or call_len_str
theorem hop_len (r : Rel K F μ S H) (hx : BRp K F μ H x bx) (h : okE K xc μ W F H σ (h1 .len bx S) Q) : rLenA K [x] H Q := by
  obtain ⟨d, b, p1, e2, h⟩ := h1_some h
  have e3 : biLen d = some b := e2
  unfold biLen at e3
  split at e3
  · cases e3
    obtain ⟨a, xs, ea, ha, ra⟩ := lk_tup r hx p1
    exact .inl ⟨a, xs, by rw [ea], .inr ha, by rw [ra.length]; exact okE_val h r (.int _) trivial⟩
  · cases e3
    obtain ⟨a, xs, ea, ha, ra⟩ := lk_lst r hx p1
    exact .inl ⟨a, xs, by rw [ea], .inl ha, by rw [ra.length]; exact okE_val h r (.int _) trivial⟩
  · split at e3
    · cases e3
      rename_i hl
      exact .inr ⟨_, by rw [lk_str r hx p1], by rw [← line_eq]; exact hl, okE_val h r (.int _) trivial⟩
    · cases e3
  · cases e3
theorem hop_abs (r : Rel K F μ S H) (hx : BRp K F μ H x bx) (h : okE K xc μ W F H σ (h1 .abs bx S) Q) : ∃ i, [x] = [V.int i] ∧ Q (.int (if i < 0 then -i else i)) H := by
  obtain ⟨d, b, p1, e2, h⟩ := h1_some h
  have e3 : biAbs d = some b := e2
  unfold biAbs at e3
  split at e3
  · cases e3
    exact ⟨_, by rw [lk_int r hx p1], okE_val h r (.int _) trivial⟩
  · cases e3
theorem hop_int (r : Rel K F μ S H) (hx : BRp K F μ H x bx) (h : okE K xc μ W F H σ (h1 .int bx S) Q) : (∃ i, [x] = [V.int i] ∧ Q (.int i) H) ∨ ∃ k, [x] = [V.bl k] ∧ Q (.int (if k then 1 else 0)) H := by
  obtain ⟨d, b, p1, e2, h⟩ := h1_some h
  have e3 : biInt d = some b := e2
  unfold biInt at e3
  split at e3
  · cases e3
    exact .inl ⟨_, by rw [lk_int r hx p1], okE_val h r (.int _) trivial⟩
  · cases e3
    exact .inr ⟨_, by rw [lk_bl r hx p1], okE_val h r (.int _) trivial⟩
  · cases e3
theorem hop_all (r : Rel K F μ S H) (hx : BRp K F μ H x bx) (h : okE K xc μ W F H σ (h1 .all bx S) Q) : rAll K [x] H Q := by
  obtain ⟨d, b, p1, e2, h⟩ := h1_some h
  have e3 : biAll (fun bs => bs.all id) d = some b := e2
  unfold biAll at e3
  split at e3
  · obtain ⟨bs, e4, e5⟩ := Option.map_eq_some_iff.mp e3
    subst e5
    obtain ⟨a, xs, ea, ha, ra⟩ := lk_lst r hx p1
    rw [rpl_bls e4 ra] at ha
    exact ⟨a, bs, by rw [ea], ha, okE_val h r (.bl _) trivial⟩
  · cases e3
theorem hop_any (r : Rel K F μ S H) (hx : BRp K F μ H x bx) (h : okE K xc μ W F H σ (h1 .any bx S) Q) : rAny K [x] H Q := by
  obtain ⟨d, b, p1, e2, h⟩ := h1_some h
  have e3 : biAll (fun bs => bs.any id) d = some b := e2
  unfold biAll at e3
  split at e3
  · obtain ⟨bs, e4, e5⟩ := Option.map_eq_some_iff.mp e3
    subst e5
    obtain ⟨a, xs, ea, ha, ra⟩ := lk_lst r hx p1
    rw [rpl_bls e4 ra] at ha
    exact ⟨a, bs, by rw [ea], ha, okE_val h r (.bl _) trivial⟩
  · cases e3
theorem hop_sum (r : Rel K F μ S H) (hx : BRp K F μ H x bx) (h : okE K xc μ W F H σ (h1 .sum bx S) Q) : rSum K [x] H Q := by
  obtain ⟨d, b, p1, e2, h⟩ := h1_some h
  have e3 : biSum d = some b := e2
  unfold biSum at e3
  split at e3
  · obtain ⟨bs, e4, e5⟩ := Option.map_eq_some_iff.mp e3
    subst e5
    obtain ⟨a, xs, ea, ha, ra⟩ := lk_lst r hx p1
    rw [rpl_ints e4 ra] at ha
    exact ⟨a, bs, by rw [ea], ha, okE_val h r (.int _) trivial⟩
  · cases e3
theorem hop_tuple (r : Rel K F μ S H) (hx : BRp K F μ H x bx) (h : okE K xc μ W F H σ (h1 .tuple bx S) Q) :
    ∃ p ys, [x] = [V.ref p] ∧ ((SqL K H p ys ∧ ∀ l, H l = none → Q (.ref l) (upd H l (.tup ys))) ∨ (SqT K H p ys ∧ Q (.ref p) H)) := by
  obtain ⟨d, b, p1, e2, h⟩ := h1_some h
  have e3 : biTuple d = some b := e2
  unfold biTuple at e3
  split at e3
  · cases e3
    obtain ⟨a, xs, ea, ha, ra⟩ := lk_tup r hx p1
    obtain ⟨_, tx⟩ := lk_t r hx p1 (fun _ z => by cases z)
    exact ⟨a, xs, by rw [ea], .inr ⟨ha, by rw [← ea]; exact okE_val h r tx trivial⟩⟩
  · cases e3
    obtain ⟨a, xs, ea, ha, ra⟩ := lk_lst r hx p1
    exact ⟨a, xs, by rw [ea], .inl ⟨ha, fun l hl => okE_tup h r ra hl⟩⟩
  · cases e3
theorem hop_list (r : Rel K F μ S H) (hx : BRp K F μ H x bx) (h : okE K xc μ W F H σ (h1 .list bx S) Q) :
    ∃ p ys, [x] = [V.ref p] ∧ (SqL K H p ys ∨ SqT K H p ys) ∧ ∀ l, H l = none → Q (.ref l) (upd H l (.lst ys)) := by
  obtain ⟨d, b, p1, e2, h⟩ := h1_some h
  have e3 : biList d = some b := e2
  unfold biList at e3
  split at e3
  · cases e3
    obtain ⟨a, xs, ea, ha, ra⟩ := lk_tup r hx p1
    exact ⟨a, xs, by rw [ea], .inr ha, fun l hl => okE_lst h r ra hl⟩
  · cases e3
    obtain ⟨a, xs, ea, ha, ra⟩ := lk_lst r hx p1
    exact ⟨a, xs, by rw [ea], .inl ha, fun l hl => okE_lst h r ra hl⟩
  · cases e3
/-- repr of plain data -/
def rRepr (K : PySem.W.Frag) : RV1 := fun xs H Q => ∃ x d, xs = [x] ∧ Dp K H x d ∧ d.showable = true ∧ d.hasDict = false ∧ d.depth ≤ 64 ∧ d.shown.length ≤ sizeLine ∧ Q (.str d.shown) H
theorem call_reprU (hu : X.A.units + 100 < cLine) (hg : X.A.guards = some []) : CallR X (.builtin "repr") (rRepr X.K) := by
  intro pins s σ H xs us Q I r h
  obtain ⟨x, d, rfl, hd, hs, hn, hdp, hz, q⟩ := h
  obtain ⟨u, rfl, ru⟩ := r.one
  cases hd with
  | non => cases (show u = Value.none from ru); exact PySem.P.repr_of_none ⟨.str _, H, I.tok _, ⟨_, rfl⟩, q⟩
  | bl b =>
    cases (show u = Value.bool b from ru)
    exact PySem.P.repr_of_bool ⟨.str _, H, I.tok _, ⟨_, rfl⟩, by cases b <;> exact q⟩
  | int i =>
    obtain ⟨t, e⟩ := (show ∃ t, u = Value.int i t from ru)
    subst e
    exact PySem.P.repr_of_int (by simpa [PyData.showable] using hs) ⟨.str _, H, I.tok _, ⟨_, rfl⟩, q⟩
  | str z =>
    obtain ⟨t, e⟩ := (show ∃ t, u = Value.str z t from ru)
    subst e
    exact PySem.P.repr_of_str ⟨.str _, H, I.tok _, ⟨_, rfl⟩, q⟩ hz
  | @lst a xs ds h1 h2 =>
    obtain ⟨as, rd⟩ := Dp.reads I (.list ds) (.ref a) u (.lst h1 h2) ru
    cases (show u = Value.ref a from ru)
    exact repr_of_reads' rd hs (fun z => by rw [hn] at z; cases z) hg (by omega) (fun _ _ e => e) (fun h' u tk hk => ⟨.str _, H, I.kept hk, ⟨_, rfl⟩, q⟩) hz
  | @tup a xs ds h1 h2 =>
    obtain ⟨as, rd⟩ := Dp.reads I (.tuple ds) (.ref a) u (.tup h1 h2) ru
    cases (show u = Value.ref a from ru)
    exact repr_of_reads' rd hs (fun z => by rw [hn] at z; cases z) hg (by omega) (fun _ _ e => e) (fun h' u tk hk => ⟨.str _, H, I.kept hk, ⟨_, rfl⟩, q⟩) hz
theorem call_reprA {k : Nat} (hr : Room k X.A) (hg : X.A.guards = some []) : CallR X (.builtin "repr") (rRepr X.K) := call_reprU (by have := hr.un; omega) hg
mutual
theorem noDict : ∀ d : D, d.py.hasDict = false
  | .non => rfl
  | .bl _ => rfl
  | .int _ => rfl
  | .str _ => rfl
  | .tup xs => noDicts xs
  | .lst xs => noDicts xs
  | .ins _ _ => rfl
  | .dic => rfl
  | .rng _ _ => rfl
  | .dct _ _ => rfl
theorem noDicts : ∀ ds : List D, PyData.hasDictAll (D.pys ds) = false
  | [] => rfl
  | x :: xs => by
    show (x.py.hasDict || PyData.hasDictAll (D.pys xs)) = false
    rw [noDict x, noDicts xs] <;> rfl
end
theorem hop_repr (r : Rel K F μ S H) (hx : BRp K F μ H x bx) (h : okE K xc μ W F H σ (h1 .repr bx S) Q) : rRepr K [x] H Q := by
  obtain ⟨d, b, p1, e2, h⟩ := h1_some h
  have e3 : (if reprOk d then some (B.t (.str d.py.shown)) else none) = some b := e2
  split at e3
  · cases e3
    rename_i hl
    unfold reprOk at hl
    simp only [Bool.and_eq_true] at hl
    exact ⟨x, d.py, rfl, lk_dp r hx p1 hl.1.1.1, hl.1.1.2, noDict d, of_decide_eq_true hl.1.2, by rw [← line_eq]; exact of_decide_eq_true hl.2, okE_val h r (.str _) trivial⟩
  · cases e3
/-! isinstance of a built-in class -/
def Ty.name : Ty → Option String
  | .int => some "int"
  | .bool => some "bool"
  | .tuple => some "tuple"
  | .list => some "list"
  | .str => some "str"
  | .dict => some "dict"
  | .cls _ => none
def D.tyName : D → String
  | .non => "NoneType"
  | .bl _ => "bool"
  | .int _ => "int"
  | .str _ => "str"
  | .tup _ => "tuple"
  | .lst _ => "list"
  | .ins _ _ => "object"
  | .dic => "dict"
  | .rng _ _ => "NoneType"
  | .dct _ _ => "dict"
theorem tyx_of (r : Rel K F μ S H) {d : D} (hx : BRp K F μ H x bx) (h : bx.look S = some d) (hp : ∀ c fs, d ≠ .ins c fs) (hr : ∀ a b, d ≠ .rng a b) : TyX K H x (.type d.tyName) := by
  cases d with
  | non => rw [lk_non r hx h]; exact .base .non
  | bl _ => rw [lk_bl r hx h]; exact .base (.bl _)
  | int _ => rw [lk_int r hx h]; exact .base (.int _)
  | str _ => rw [lk_str r hx h]; exact .base (.str _)
  | tup ds =>
    obtain ⟨a, xs, e, h1, _⟩ := lk_tup r hx h
    rw [e]
    rcases h1 with (h1 | ⟨o, h1⟩) | ⟨o, its, n, hk, hc, _⟩
    · exact .base (.tup h1)
    · exact .fTuple h1
    · exact .kTuple hk hc
  | lst ds =>
    obtain ⟨a, xs, e, h1, _⟩ := lk_lst r hx h
    rw [e]
    rcases h1 with (h1 | ⟨o, h1⟩) | ⟨o, its, n, hk, hc, _⟩
    · exact .base (.lst h1)
    · exact .base (.frz h1)
    · exact .kList hk hc
  | ins c fs => exact absurd rfl (hp c fs)
  | dic =>
    obtain ⟨_, h2⟩ := lk_t r hx h (fun _ z => by cases z)
    cases h2 with
    | dic e => exact .base (.dK (r.sub _ _ e))
  | dct =>
    obtain ⟨_, h2⟩ := lk_t r hx h (fun _ z => by cases z)
    cases h2 with
    | dct e _ => exact .base (.dK (r.sub _ _ e))
  | rng a b => exact absurd rfl (hr a b)
def tyTab (a b : String) : Bool := a == b || (a == "bool" && b == "int")
theorem kit_tab : (["NoneType", "bool", "int", "str", "tuple", "list", "dict"].all fun a => ["int", "bool", "tuple", "list", "str", "dict"].all fun b => kitB a b == some (tyTab a b)) = true := by decide +kernel
theorem kit_d (ty : Ty) (n : String) (hn : ty.name = some n) (d : D) (hp : ∀ c fs, d ≠ .ins c fs) : PySem.W.kitOne K (.type d.tyName) (.type n) = some (isTy ty d) := by
  have e : kitB d.tyName n = some (tyTab d.tyName n) := by
    have h := kit_tab
    rw [List.all_eq_true] at h
    have hd : d.tyName ∈ ["NoneType", "bool", "int", "str", "tuple", "list", "dict"] := by
      cases d <;> first | exact absurd rfl (hp _ _) | simp [D.tyName]
    have h2 := h _ hd
    rw [List.all_eq_true] at h2
    have hm : n ∈ ["int", "bool", "tuple", "list", "str", "dict"] := by
      cases ty <;> cases hn <;> simp
    exact beq_iff_eq.mp (h2 _ hm)
  rw [kit_ty e]
  congr 1
  cases ty <;> cases hn <;> cases d <;> first | exact absurd rfl (hp _ _) | rfl
theorem slt_of {v : V} {y : Str} {fs : List D} (r : Rel K F μ S H) (h : Rp K F v (.ins y fs)) : ∃ a dx ws, v = .ref a ∧ SlX.Slt H a (He.ga K y) dx (ws.map some) ∧ SlC K y ∧ RpL K F ws fs := by
  cases h with
  | @ins a dx _ ws _ h1 h2 c rs => exact ⟨a, dx, ws, rfl, .inr ⟨r.sub _ _ h1, r.sub _ _ h2⟩, c, rs⟩
theorem isi_flat {ty : Ty} {d : D} (hp : ∀ c fs, d ≠ .ins c fs) (hr : ∀ a b, d ≠ .rng a b) : isiD ty d = some (.t (.bl (isTy ty d))) := by
  unfold isiD
  split
  · rename_i x y fs
    exact absurd rfl (hp y fs)
  · exact absurd rfl (hr _ _)
  · rfl
theorem rng_dec {ty : Ty} {d : D} {b : B} (h : isiD ty d = some b) : ∀ x y, d ≠ .rng x y := by
  intro x y e
  subst e
  unfold isiD at h
  split at h
  · rename_i e; cases e
  · cases h
  · rename_i q _; exact q _ _ rfl
theorem ins_dec (d : D) : (∃ y fs, d = .ins y fs) ∨ ∀ c fs, d ≠ .ins c fs := by
  cases d with
  | ins y fs => exact .inl ⟨y, fs, rfl⟩
  | _ => exact .inr fun _ _ z => by cases z
theorem hop_isi {ty : Ty} {n : String} (hn : ty.name = some n) (r : Rel K F μ S H) (hx : BRp K F μ H x bx) (h : okE K xc μ W F H σ (h1 (.isi ty) bx S) Q) : rIsi K [x, .ty n] H Q ∨ SlX.rIsiSl K (.type n) [x, .ty n] H Q := by
  obtain ⟨d, b, p1, e2, h⟩ := h1_some h
  have e2 : isiD ty d = some b := e2
  rcases ins_dec d with ⟨y, fs, rfl⟩ | hp
  · obtain ⟨_, h2⟩ := lk_t r hx p1 (fun _ z => by cases z)
    obtain ⟨a, dx, ws, e, sl, c, _⟩ := slt_of r h2
    subst e
    have hm : n ∈ ["int", "bool", "tuple", "list", "str", "dict"] := by
      cases ty <;> cases hn <;> simp
    have eb : b = .t (.bl false) := by
      cases ty <;> cases hn <;> cases e2 <;> rfl
    subst eb
    exact .inr ⟨a, _, dx, _, _, false, rfl, rfl, fun w z => z, sl, c.cls, c.isi, c.no n hm, okE_val h r (.bl _) trivial⟩
  · have hr := rng_dec e2
    rw [isi_flat hp hr] at e2
    cases e2
    exact .inl ⟨x, .ty n, _, _, _, rfl, .ty n, tyx_of r hx p1 hp hr, kit_d ty n hn d hp, okE_val h r (.bl _) trivial⟩
/-- isinstance(x, C), C a class with slots -/
theorem hop_isiC {y : Str} (hK : ∀ n ∈ ["NoneType", "bool", "int", "str", "tuple", "list", "dict"], PySem.W.kitOne K (.type n) (.ref (He.ga K y)) = some false) (r : Rel K F μ S H) (hx : BRp K F μ H x bx) (h : okE K xc μ W F H σ (h1 (.isi (.cls y)) bx S) Q) :
    rIsi K [x, .ref (He.ga K y)] H Q ∨ SlX.rIsiSl K (.ref (He.ga K y)) [x, .ref (He.ga K y)] H Q := by
  obtain ⟨d, b, p1, e2, h⟩ := h1_some h
  have e2 : isiD (.cls y) d = some b := e2
  rcases ins_dec d with ⟨z, fs, rfl⟩ | hp
  · obtain ⟨_, h2⟩ := lk_t r hx p1 (fun _ z => by cases z)
    obtain ⟨a, dx, ws, e, sl, c, _⟩ := slt_of r h2
    subst e
    have e3 : (if y = z then some (B.t (.bl true)) else none) = some b := e2
    by_cases q : y = z
    · subst q
      rw [if_pos rfl] at e3
      cases e3
      exact .inr ⟨a, _, dx, _, _, true, rfl, rfl, fun w z => z, sl, c.cls, c.isi, c.yes, okE_val h r (.bl _) trivial⟩
    · rw [if_neg q] at e3
      cases e3
  · have hr := rng_dec e2
    rw [isi_flat hp hr] at e2
    cases e2
    have hd : d.tyName ∈ ["NoneType", "bool", "int", "str", "tuple", "list", "dict"] := by
      cases d <;> first | exact absurd rfl (hp _ _) | simp [D.tyName]
    have ef : isTy (.cls y) d = false := by
      cases d <;> first | exact absurd rfl (hp _ _) | rfl
    rw [ef] at h
    exact .inl ⟨x, .ref (He.ga K y), _, _, false, rfl, .own _, tyx_of r hx p1 hp hr, hK _ hd, okE_val h r (.bl _) trivial⟩
theorem hop_2I {f : Int → Int → Int} {b : Bi} (he : bi2 b = bi2I f) (r : Rel K F μ S H) (hx : BRp K F μ H x bx) (hy : BRp K F μ H y bY) (h : okE K xc μ W F H σ (h2 b bx bY S) Q) : ∃ i j, [x, y] = [V.int i, V.int j] ∧ Q (.int (f i j)) H := by
  obtain ⟨d, e, b', p1, p2, e2, h⟩ := h2_some h
  rw [he] at e2
  unfold bi2I at e2
  split at e2
  · cases e2
    exact ⟨_, _, by rw [lk_int r hx (look_of_peek p1), lk_int r hy (look_of_peek p2)], okE_val h r (.int _) trivial⟩
  · cases e2
end
/-! ### defs -/
/-- what is wanted of a call's result -/
def okC (K : PySem.W.Frag) (xc : Nat → Option XCls) (μ : List Addr) (F H : Hp) (r : R B) (Q : VK) (E : XK) : Prop := match r with
  | .ok b S' => ∀ F' H' v, Ext μ F H F' H' → Rel K F' μ S' H' → BRp K F' μ H' v b → Fresh H v b → Q v H'
  | .ex c p S' => ∀ F' H' cls d, Ext μ F H F' H' → Rel K F' μ S' H' → XR K xc F' H' c p cls d → E cls d H'
  | .bad => False
/-- the def at f does what m says -/
structure FnC (P : Program) (w : World) (K : PySem.W.Frag) (mg : Str → Option Value) (base : Heap) (xc : Nat → Option XCls) (k : Nat) (f : Addr) (m : List B → Store → R B) : Prop where
  run : ∀ (A : Around) (outer : List PySem.Env) (s : Shared) (H : Hp) (us : List Value) (vs : List V) (F : Hp) (μ : List Addr) (S : Store) (bs : List B) (Q : VK) (E : XK),
    Room k A → A.guards = some [] → Env0 P w K mg base A outer s H → Vals vs us → Rel K F μ S H → BRs K F μ H vs bs → okC K xc μ F H (m bs S) Q E →
    codeAny (model P w) A (.call (.ref f) ⟨us, []⟩) (CR (L2.CX P w) outer P w H s Q E) s
section
variable {X : Cx} {K : PySem.W.Frag} {xc : Nat → Option XCls} {W : WX} {F : Hp} {μ : List Addr} {S : Store} {H : Hp} {σ : L2.St} {Q : VK}
theorem getAll_cons {k : Nat} {ks : List Nat} {os : Store} (h : getAll S (k :: ks) = some os) : ∃ xs os', S[k]? = some (.lst xs) ∧ getAll S ks = some os' ∧ os = .lst xs :: os' := by
  unfold getAll at h
  cases q : S[k]? with
  | none => rw [q] at h; cases h
  | some o =>
    rw [q] at h
    cases o with
    | obj _ _ => cases h
    | lst xs =>
      have h : (getAll S ks).map (O.lst xs :: ·) = some os := h
      obtain ⟨os', h1, h2⟩ := Option.map_eq_some_iff.mp h
      exact ⟨xs, os', rfl, h1, h2.symm⟩
theorem getAll_len : ∀ {ks : List Nat} {os : Store}, getAll S ks = some os → ks.length = os.length
  | [], os, h => by cases h; rfl
  | k :: ks, os, h => by
    obtain ⟨xs, os', h1, h2, h3⟩ := getAll_cons h
    rw [h3]
    simp [getAll_len h2]
theorem getAll_get : ∀ {ks : List Nat} {os : Store} {i : Nat} {k : Nat}, getAll S ks = some os → ks[i]? = some k → S[k]? = os[i]? ∧ k < S.length
  | [], _, _, _, _, e => by simp at e
  | k0 :: ks, os, i, k, h, e => by
    obtain ⟨xs, os', h1, h2, h3⟩ := getAll_cons h
    subst h3
    cases i with
    | zero =>
      simp at e
      subst e
      exact ⟨by simpa using h1, (List.getElem?_eq_some_iff.mp h1).1⟩
    | succ i =>
      have := getAll_get h2 (i := i) (by simpa using e)
      simpa using this
theorem getAll_lst : ∀ {ks : List Nat} {os : Store}, getAll S ks = some os → os.all O.isL = true
  | [], os, h => by cases h; rfl
  | k :: ks, os, h => by
    obtain ⟨xs, os', h1, h2, h3⟩ := getAll_cons h
    subst h3
    rw [List.all_cons, getAll_lst h2]
    rfl
theorem no_obj {os : Store} (h : os.all O.isL = true) {i : Nat} {x : Str} {fs : List FB} (e : os[i]? = some (.obj x fs)) : False := by
  have := List.all_eq_true.mp h _ (List.mem_of_getElem? e)
  cases this
theorem putAll_len : ∀ (ks : List Nat) (os S : Store), (putAll S ks os).length = S.length
  | [], os, S => by simp [putAll]
  | _ :: _, [], S => by simp [putAll]
  | k :: ks, o :: os, S => by
    show (putAll (S.set k o) ks os).length = S.length
    rw [putAll_len ks os]
    simp
theorem putAll_out : ∀ {ks : List Nat} {os S : Store} {k : Nat}, k ∉ ks → (putAll S ks os)[k]? = S[k]?
  | [], os, S, _, _ => by simp [putAll]
  | _ :: _, [], S, _, _ => by simp [putAll]
  | k0 :: ks, o :: os, S, k, h => by
    show (putAll (S.set k0 o) ks os)[k]? = S[k]?
    rw [putAll_out (fun z => h (List.mem_cons_of_mem _ z)), List.getElem?_set_ne (fun z => h (by rw [z]; exact List.mem_cons_self))]
theorem putAll_in : ∀ {ks : List Nat} {os S : Store} {k i : Nat}, ks.Nodup → ks.length = os.length → (∀ k ∈ ks, k < S.length) → ks[i]? = some k → (putAll S ks os)[k]? = os[i]?
  | [], _, _, _, _, _, _, _, e => by simp at e
  | _ :: _, [], _, _, _, _, h, _, _ => by simp at h
  | k0 :: ks, o :: os, S, k, i, nd, hl, hs, e => by
    show (putAll (S.set k0 o) ks os)[k]? = (o :: os)[i]?
    obtain ⟨n1, n2⟩ := List.nodup_cons.mp nd
    cases i with
    | zero =>
      simp at e
      subst e
      rw [putAll_out n1, List.getElem?_set_self (hs _ List.mem_cons_self)]
      rfl
    | succ i =>
      simp at e
      rw [putAll_in (i := i) n2 (by simpa using hl) (fun k hk => by rw [List.length_set]; exact hs k (List.mem_cons_of_mem _ hk)) e]
      rfl
theorem Rel.live (r : Rel K F μ S H) {a : Addr} (ha : a ∈ μ) : ¬ Gone H a := fun hp => (r.out hp).2 ha
/-- the addresses of the places ks -/
def adr (μ : List Addr) (k : Nat) : Addr := (μ[k]?).getD 0
theorem adr_of {k : Nat} {a : Addr} (h : μ[k]? = some a) : adr μ k = a := by unfold adr; rw [h]; rfl
theorem refs_ok : ∀ {vs : List V} {bs : List B}, BRs K F μ H vs bs → ∀ k ∈ bs.filterMap B.ref?, ∃ a, μ[k]? = some a
  | _, _, .nil, k, h => by simp at h
  | _, _, .cons (b := b) (bs := bs) h r, k, hk => by
    rw [List.filterMap_cons] at hk
    cases b with
    | r j =>
      rcases List.mem_cons.mp (show k ∈ j :: bs.filterMap B.ref? from hk) with e | hk
      · obtain ⟨a, _, ha⟩ := h
        exact ⟨a, by rw [e]; exact ha⟩
      · exact refs_ok r k hk
    | t _ => exact refs_ok r k hk
    | own _ => exact refs_ok r k hk
    | bor _ => exact refs_ok r k hk
    | sc _ => exact refs_ok r k hk
theorem renum_ok {μ' : List Addr} (hsub : ∀ a ∈ μ', a ∈ μ) : ∀ {vs : List V} {bs : List B} (pre : List Addr), BRs K F μ H vs bs → μ' = pre ++ (bs.filterMap B.ref?).map (adr μ) → BRs K F μ' H vs (renum bs pre.length)
  | _, _, _, .nil, _ => .nil
  | _, _, pre, .cons (b := b) (bs := bs) h r, e => by
    have own : ∀ {d : D} {v : V}, OwnAt K F μ H v d → OwnAt K F μ' H v d := fun ⟨a, xs, ds, e1, e2, e3, e4, e5, e6⟩ => ⟨a, xs, ds, e1, e2, e3, e4, e5, fun z => e6 (hsub a z)⟩
    rw [List.filterMap_cons] at e
    cases b with
    | r j =>
      obtain ⟨a, ea, ha⟩ := h
      have e' : μ' = (pre ++ [a]) ++ (bs.filterMap B.ref?).map (adr μ) := by
        rw [e]
        show pre ++ (adr μ j :: (bs.filterMap B.ref?).map (adr μ)) = _
        rw [adr_of ha, List.append_assoc]
        rfl
      have ih := renum_ok hsub (pre ++ [a]) r e'
      rw [List.length_append] at ih
      refine .cons ⟨a, ea, ?_⟩ ih
      rw [e', List.append_assoc]
      simp
    | t d => exact .cons h (renum_ok hsub pre r e)
    | own d => exact .cons (own h) (renum_ok hsub pre r e)
    | bor d => exact .cons (own h) (renum_ok hsub pre r e)
    | sc d =>
      obtain ⟨a, xs, ds, e1, e2, e3, e4⟩ := h
      exact .cons ⟨a, xs, ds, e1, e2, e3.to fun o h m => ⟨h, fun z => m (hsub a z)⟩, e4⟩ (renum_ok hsub pre r e)
theorem nodup_map {f : Nat → Addr} : ∀ {ks : List Nat}, ks.Nodup → (∀ i ∈ ks, ∀ j ∈ ks, f i = f j → i = j) → (ks.map f).Nodup
  | [], _, _ => by simp
  | k :: ks, nd, h => by
    obtain ⟨n1, n2⟩ := List.nodup_cons.mp nd
    rw [List.map_cons, List.nodup_cons]
    refine ⟨fun z => ?_, nodup_map n2 fun i hi j hj => h i (List.mem_cons_of_mem _ hi) j (List.mem_cons_of_mem _ hj)⟩
    obtain ⟨j, hj, e⟩ := List.mem_map.mp z
    have := h j (List.mem_cons_of_mem _ hj) k List.mem_cons_self e
    subst this
    exact n1 hj
theorem callS_ok {m : List B → Store → R B} {bs : List B} {vs : List V} (hm : okE K xc μ W F H σ (callS m bs S) Q) (r : Rel K F μ S H) (rs : BRs K F μ H vs bs) :
    ∃ μ' os, Rel K F μ' os H ∧ BRs K F μ' H vs (renum bs 0) ∧ okC K xc μ' F H (m (renum bs 0) os) Q (fun cls d H' => W cls d σ H') := by
  unfold callS at hm
  dsimp only at hm
  have nd : (bs.filterMap B.ref?).Nodup := Decidable.byContradiction fun nd => by
    rw [if_neg nd] at hm
    exact hm.elim
  rw [if_pos nd] at hm
  cases ga : getAll S (bs.filterMap B.ref?) with
  | none => rw [ga] at hm; exact hm.elim
  | some os =>
  rw [ga] at hm
  dsimp only at hm
  generalize hks : bs.filterMap B.ref? = ks at *
  have hv : ∀ k ∈ ks, ∃ a, μ[k]? = some a := by rw [← hks]; exact refs_ok rs
  have hin : ∀ a ∈ ks.map (adr μ), a ∈ μ := fun a ha => by
    obtain ⟨k, hk, e⟩ := List.mem_map.mp ha
    obtain ⟨c, hc⟩ := hv k hk
    rw [← e, adr_of hc]
    exact List.mem_of_getElem? hc
  have inj : ∀ i ∈ ks, ∀ j ∈ ks, adr μ i = adr μ j → i = j := fun i hi j hj e => by
    obtain ⟨a, ha⟩ := hv i hi
    obtain ⟨c, hc⟩ := hv j hj
    rw [adr_of ha, adr_of hc] at e
    subst e
    obtain ⟨l1, q1⟩ := List.getElem?_eq_some_iff.mp ha
    obtain ⟨l2, q2⟩ := List.getElem?_eq_some_iff.mp hc
    exact (List.getElem_inj r.nd).mp (q1.trans q2.symm)
  have hlen := getAll_len ga
  have r' : Rel K F (ks.map (adr μ)) os H := by
    refine ⟨r.sub, by rw [List.length_map]; exact hlen, nodup_map nd inj, fun i a xs e1 e2 => ?_, fun a ha => r.dis a (hin a ha), r.ft, r.tab, fun i a x fs e1 e2 => (no_obj (getAll_lst ga) e2).elim⟩
    rw [List.getElem?_map] at e1
    cases q : ks[i]? with
    | none => rw [q] at e1; cases e1
    | some k =>
      rw [q] at e1
      have ea : adr μ k = a := by simpa using e1
      obtain ⟨c, hc⟩ := hv k (List.mem_of_getElem? q)
      rw [adr_of hc] at ea
      subst ea
      exact r.obj k c xs hc (by rw [(getAll_get ga q).1]; exact e2)
  refine ⟨ks.map (adr μ), os, r', renum_ok hin [] rs (by rw [hks]; rfl), ?_⟩
  have ext : ∀ {F' H' : Hp}, Ext (ks.map (adr μ)) F H F' H' → Ext μ F H F' H' := fun x => ⟨x.fs, x.fn, fun a o h n m => x.keep a o h n (fun z => m (hin a z)), x.live⟩
  have rel : ∀ {F' H' : Hp} {os' : Store}, os'.all O.isL = true → Ext (ks.map (adr μ)) F H F' H' → Rel K F' (ks.map (adr μ)) os' H' → Rel K F' μ (putAll S ks os') H' := fun {F' H' os'} al x r1 => by
    have hl2 : ks.length = os'.length := by have := r1.len; rw [List.length_map] at this; exact this
    refine ⟨r1.sub, by rw [putAll_len]; exact r.len, r.nd, fun k a xs e1 e2 => ?_, fun a ha => ?_, r1.ft, r1.tab, fun k a y fs e1 e2 => ?_⟩
    rotate_left 2
    · by_cases hk : k ∈ ks
      · obtain ⟨i, hi⟩ := List.mem_iff_getElem?.mp hk
        rw [putAll_in nd hl2 (fun k hk => by obtain ⟨c, hc⟩ := hv k hk; rw [← r.len]; exact (List.getElem?_eq_some_iff.mp hc).1) hi] at e2
        exact (no_obj al e2).elim
      · rw [putAll_out hk] at e2
        have na : a ∉ ks.map (adr μ) := fun z => by
          obtain ⟨j, hj, e⟩ := List.mem_map.mp z
          obtain ⟨c, hc⟩ := hv j hj
          rw [adr_of hc] at e
          subst e
          obtain ⟨l1, q1⟩ := List.getElem?_eq_some_iff.mp e1
          obtain ⟨l2, q2⟩ := List.getElem?_eq_some_iff.mp hc
          have := (List.getElem_inj r.nd).mp (q1.trans q2.symm)
          subst this
          exact hk hj
        exact (r.ob2 k a y fs e1 e2).to x.fs (fun _ _ h => h) fun o n h => x.keep a o h n na
    · by_cases hk : k ∈ ks
      · obtain ⟨i, hi⟩ := List.mem_iff_getElem?.mp hk
        rw [putAll_in nd hl2 (fun k hk => by obtain ⟨c, hc⟩ := hv k hk; rw [← r.len]; exact (List.getElem?_eq_some_iff.mp hc).1) hi] at e2
        exact r1.obj i a xs (by rw [List.getElem?_map, hi]; show some (adr μ k) = some a; rw [adr_of e1]) e2
      · rw [putAll_out hk] at e2
        obtain ⟨ws, h1, h2⟩ := r.obj k a xs e1 e2
        have na : a ∉ ks.map (adr μ) := fun z => by
          obtain ⟨j, hj, e⟩ := List.mem_map.mp z
          obtain ⟨c, hc⟩ := hv j hj
          rw [adr_of hc] at e
          subst e
          obtain ⟨l1, q1⟩ := List.getElem?_eq_some_iff.mp e1
          obtain ⟨l2, q2⟩ := List.getElem?_eq_some_iff.mp hc
          have := (List.getElem_inj r.nd).mp (q1.trans q2.symm)
          subst this
          exact hk hj
        exact ⟨ws, x.keep a _ h1 (fun _ z => by cases z) na, h2.mono x.fs⟩
    · rw [x.fn a (r.live ha)]; exact r.dis a ha
  cases q : m (renum bs 0) os with
  | ok b os' =>
    rw [q] at hm
    have hm : okE K xc μ W F H σ (match b.give, os'.all O.isL with
        | some b, true => .ok b (putAll S ks os')
        | _, _ => .bad) Q := hm
    intro F' H' v x r1 bv fr
    cases al : os'.all O.isL with
    | false => rw [al] at hm; cases b <;> exact hm.elim
    | true =>
    rw [al] at hm
    cases b with
    | t d => exact hm F' H' v (ext x) (rel al x r1) bv fr
    | own d =>
      obtain ⟨a, xs, ds, e1, e2, e3, e4, e5, e6⟩ := bv
      exact hm F' H' v (ext x) (rel al x r1) ⟨a, xs, ds, e1, e2, e3, e4, e5, (r.out (fr a e1)).2⟩ fr
    | bor d => exact hm.elim
    | sc d => exact hm.elim
    | r k => exact hm.elim
  | ex c p os' =>
    rw [q] at hm
    have hm : okE K xc μ W F H σ (if os'.all O.isL then .ex c p (putAll S ks os') else .bad) Q := hm
    cases al : os'.all O.isL with
    | false => rw [al] at hm; exact hm.elim
    | true =>
    rw [al] at hm
    exact fun F' H' cls d x r1 xr => hm F' H' cls d (ext x) (rel al x r1) xr
  | bad =>
    rw [q] at hm
    exact hm.elim
theorem callW_ok {m : List B → Store → R B} {bs : List B} (hm : okE K xc μ W F H σ (callW m bs S) Q) (r : Rel K F μ S H) : okC K xc μ F H (m bs S) Q (fun cls d H' => W cls d σ H') := by
  unfold callW at hm
  cases q : m bs S with
  | ok b s' =>
    rw [q] at hm
    intro F' H' v x r1 bv fr
    cases b with
    | t d => exact hm F' H' v x r1 bv fr
    | own d => exact hm F' H' v x r1 bv fr
    | bor d => exact hm.elim
    | sc d => exact hm.elim
    | r k => exact hm.elim
  | ex c p s' => rw [q] at hm; exact hm
  | bad => rw [q] at hm; exact hm.elim
/-- the thing at f, called within a body, does what m says -/
structure CalC (P : Program) (w : World) (K : PySem.W.Frag) (mg : Str → Option Value) (base : Heap) (xc : Nat → Option XCls) (k : Nat) (f : Addr) (m : List B → Store → R B) : Prop where
  run : ∀ (X : Cx) (W : WX) (pins : List (Addr × Obj)) (σ : L2.St) (s : Shared) (H : Hp) (us : List Value) (vs : List V) (F : Hp) (μ : List Addr) (S : Store) (bs : List B) (Q : VK), X.prog = P → X.w = w → X.K = K → X.mg = mg → X.base = base →
    Room k X.A → X.A.guards = some [] → Takes X W → Inv X pins σ H s → Vals vs us → Rel K F μ S H → BRs K F μ H vs bs → okC K xc μ F H (m bs S) Q (fun cls d H' => W cls d σ H') → wpAny (model X.prog X.w) X.A (call (.ref f) us) (EP X pins σ Q) X.xe s
theorem FnC.cal {P : Program} {w : World} {K : PySem.W.Frag} {mg : Str → Option Value} {base : Heap} {k : Nat} {f : Addr} {m : List B → Store → R B} (Fc : FnC P w K mg base xc k f m) : CalC P w K mg base xc k f m := by
  constructor
  intro X W pins σ s H us vs F μ S bs Q e1 e2 e3 e4 e5 hr hgd tk I rv rel brs hok
  subst e1 e2 e3 e4 e5
  refine wpAny_call (codeAny_mono (Fc.run X.A X.stack s H us vs F μ S bs Q _ hr hgd I.env0 rv rel brs hok) fun r s' hq => ?_)
  cases r with
  | error e => exact tk e s' (XE.of_call I (fun cls d H' h => h) hq)
  | ok fl =>
    cases fl with
    | ret u => exact I.after hq
    | next => exact False.elim hq
    | brk => exact False.elim hq
    | cont => exact False.elim hq
/-- f(..), f a def of the text -/
theorem pe_callM {k : Nat} {f : Addr} {m : List B → Store → R B} {ma : Env → Store → R (List B)} {x : Str} {p pos : Pos} {e : Expr} {es : List Expr} (Fc : CalC X.prog X.w X.K X.mg X.base xc k f m) (hr : Room k X.A) (hgd : X.A.guards = some []) (tk : Takes X W)
    (hg : L2.Gl X x) (hmg : X.mg x = some (.ref f)) (hk : PySem.W.keepIn X.K (.ref f) = true) (ha : PA X (e :: es) (tML X.K xc W ma)) (hdb : (x == ("__debug__" : Str)) = false)
    (he : starEach (e :: es) X.env = (false, eval e X.env) :: starEach es X.env) (hpl : (backTo pos (starEach es X.env)).any (·.1) = false) :
    PE X (.Call (.Name x p) (e :: es) [] pos) (tM X.K xc W fun ρ s => (ma ρ s).bind fun bs s => callS m bs s) := by
  refine ⟨fun pins s σ H Q I h => ?_⟩
  obtain ⟨F, μ, S, ρ, rel, er, h⟩ := h
  have run : ∀ {us : List Value} {vs : List V} {s1 : Shared} {H1 : Hp}, Inv X pins σ H1 s1 → Vals vs us → (∃ F1 μ S1 bs, Rel X.K F1 μ S1 H1 ∧ BRs X.K F1 μ H1 vs bs ∧ okE X.K xc μ W F1 H1 σ (callS m bs S1) Q) →
      wpAny (model X.prog X.w) X.A (call (.ref f) us) (EP X pins σ Q) X.xe s1 := by
    rintro us vs s1 H1 I1 rv ⟨F1, μ1, S1, bs, r1, b1, h1⟩
    obtain ⟨μ', os, r2, b2, h2⟩ := callS_ok h1 r1 b1
    exact Fc.run X W pins σ s1 H1 us vs F1 μ' os _ Q rfl rfl rfl rfl rfl hr hgd tk I1 rv r2 b2 h2
  have har : tML X.K xc W ma σ H (fun vs H1 => ∃ F1 μ S1 bs, Rel X.K F1 μ S1 H1 ∧ BRs X.K F1 μ H1 vs bs ∧ okE X.K xc μ W F1 H1 σ (callS m bs S1) Q) :=
    ⟨F, μ, S, ρ, rel, er, okL_bind h fun F1 H1 vs bs S1 e1 r1 b1 h1 => ⟨F1, μ, S1, bs, r1, b1, h1⟩⟩
  refine wpAny_Call_Name_kw (ld_glob I hg hmg ?_ hdb)
  refine PySem.W.callWith_K (h₀ := X.base) I.ok.mod.kin hk (thn (ha.run pos pins s σ H _ I har) fun us s1 ⟨vs, H1, I1, r, q⟩ => ⟨I1.kIn, ?_⟩) he hpl
  exact run I1 r q
/-- f() -/
theorem pe_callM0 {k : Nat} {f : Addr} {m : List B → Store → R B} {x : Str} {p pos : Pos} (Fc : CalC X.prog X.w X.K X.mg X.base xc k f m) (hr : Room k X.A) (hgd : X.A.guards = some []) (tk : Takes X W)
    (hg : L2.Gl X x) (hmg : X.mg x = some (.ref f)) (hk : PySem.W.keepIn X.K (.ref f) = true) (hdb : (x == ("__debug__" : Str)) = false) :
    PE X (.Call (.Name x p) [] [] pos) (tM X.K xc W fun ρ s => callS m [] s) := by
  refine ⟨fun pins s σ H Q I h => ?_⟩
  obtain ⟨F, μ, S, ρ, rel, er, h⟩ := h
  refine wpAny_Call_Name_kw (ld_glob I hg hmg ?_ hdb)
  refine PySem.W.callWith_K0 I.kIn hk ?_
  obtain ⟨μ', os, r2, b2, h2⟩ := callS_ok h rel .nil
  exact Fc.run X W pins σ s H [] [] F μ' os _ Q rfl rfl rfl rfl rfl hr hgd tk I .nil r2 b2 h2
end
end Zw
set_option Elab.async false
set_option linter.all false
set_option maxRecDepth 100000
/-! Zw4: expressions of the text against the core, one rule each. -/
namespace Zw
open PySem PySem.Spec PyProof.Rows L2
theorem R.bind_assoc {α β γ : Type} (r : R α) (f : α → Store → R β) (g : β → Store → R γ) : (r.bind f).bind g = r.bind fun a s => (f a s).bind g := by
  cases r <;> rfl
section
variable {X : Cx} {K : PySem.W.Frag} {xc : Nat → Option XCls} {W : WX} {F : Hp} {μ : List Addr} {S : Store} {H : Hp} {σ : L2.St} {ρ : Env} {G : Gx}
/-! ### names, constants -/
theorem r_var {i : Nat} {x : Str} {pos : Pos} (h : PE X (.Name x pos) (tVar i)) : PE X (.Name x pos) (tM X.K xc W (ev G (.var i))) := by
  refine PE.weak h fun σ H Q q => ?_
  obtain ⟨F, μ, S, ρ, rel, er, q⟩ := q
  have q : okE X.K xc μ W F H σ (.of (readV ρ[i]?) S) Q := by simpa [ev] using q
  cases e : ρ[i]? with
  | none => rw [e] at q; exact q.elim
  | some o => cases o with
    | none => rw [e] at q; exact q.elim
    | some b =>
      rw [e] at q
      obtain ⟨v, h1, h2⟩ := er.val i b e
      refine ⟨v, h1, ?_⟩
      cases b with
      | own d => exact okE_val (b := .bor d) q rel h2 trivial
      | t d => exact okE_val q rel h2 trivial
      | bor d => exact okE_val q rel h2 trivial
      | sc d => exact okE_val q rel h2 trivial
      | r k => exact okE_val q rel h2 trivial
theorem r_val {e : Expr} {v : V} {d : D} (h : PE X e (tC v)) (r : ∀ F, Rp X.K F v d) {m : Env → Store → R B} (hm : ∀ ρ s, m ρ s = .ok (.t d) s) : PE X e (tM X.K xc W m) := by
  refine PE.weak h fun σ H Q q => ?_
  obtain ⟨F, μ, S, ρ, rel, er, q⟩ := q
  rw [hm] at q
  exact okE_val q rel (r F) trivial
/-- a constant of the text -/
def constD : Const → Option D
  | .none => some .non
  | .bool b => some (.bl b)
  | .int i => some (.int i)
  | .str s => some (.str s)
  | _ => none
theorem r_cst {k : Const} {d : D} {j} {pos : Pos} (h : constD k = some d) : PE X (.Constant k j pos) (tM X.K xc W (ev G (.cst d))) := by
  have hm : ∀ ρ s, ev G (.cst d) ρ s = .ok (.t d) s := fun ρ s => by simp [ev]
  unfold constD at h
  split at h
  · cases h; exact r_val pe_non (fun _ => .non) hm
  · cases h; exact r_val pe_bl (fun _ => .bl _) hm
  · cases h; exact r_val pe_int (fun _ => .int _) hm
  · cases h; exact r_val pe_str (fun _ => .str _) hm
  · cases h
/-! ### operators -/
theorem r_bin {a b : Expr} {ca cb : CE} {op : Op2} {o : Operator} {r : R2} {pos : Pos} (ho : OpR X (binaryOp o) r) (ha : PE X a (tM X.K xc W (ev G ca))) (hb : PE X b (tM X.K xc W (ev G cb)))
    (hop : ∀ σ F μ S H x y bx bY (Q : VK), Rel X.K F μ S H → BRp X.K F μ H x bx → BRp X.K F μ H y bY → okE X.K xc μ W F H σ (g2 op bx bY S) Q → r x y H Q) :
    PE X (.BinOp a o b pos) (tM X.K xc W (ev G (.bin op ca cb))) :=
  PE.weak (pe_op ho ha hb) fun σ H Q q => bin_rd (g := g2 op) (hop σ) (by
    have e : ev G (.bin op ca cb) = fun ρ s => (ev G ca ρ s).bind fun x s => (ev G cb ρ s).bind fun y s => g2 op x y s := by funext ρ s; simp [ev, g2]
    rw [e] at q; exact q)
/-- which operator of the text an operator of the core is -/
def opOf : Op2 → Operator
  | .add => .Add
  | .sub => .Sub
  | .mul => .Mult
  | .mod => .Mod
  | .fdiv => .FloorDiv
  | .pow => .Pow
theorem r_binAll {a b : Expr} {ca cb : CE} {op : Op2} {pos : Pos} (ha : PE X a (tM X.K xc W (ev G ca))) (hb : PE X b (tM X.K xc W (ev G cb))) : PE X (.BinOp a (opOf op) b pos) (tM X.K xc W (ev G (.bin op ca cb))) := by
  cases op with
  | add => exact r_bin op_addA ha hb fun σ F μ S H x y bx bY Q r hx hy h => hop_add r hx hy h
  | sub => exact r_bin op_sub ha hb fun σ F μ S H x y bx bY Q r hx hy h => hop_sub r hx hy h
  | mul => exact r_bin op_mulA ha hb fun σ F μ S H x y bx bY Q r hx hy h => hop_mul r hx hy h
  | mod => exact r_bin op_mod ha hb fun σ F μ S H x y bx bY Q r hx hy h => hop_mod r hx hy h
  | fdiv => exact r_bin op_fdivW ha hb fun σ F μ S H x y bx bY Q r hx hy h => hop_fdiv r hx hy h
  | pow => exact r_bin op_powX ha hb fun σ F μ S H x y bx bY Q r hx hy h => hop_pow r hx hy h
def cmOf : Cm → CmpOp
  | .eq => .Eq
  | .ne => .NotEq
  | .lt => .Lt
  | .le => .LtE
  | .gt => .Gt
  | .ge => .GtE
  | .isN => .Is
  | .notN => .IsNot
  | .in_ => .In
  | .notIn => .NotIn
/-- a comparison's rule by values -/
structure CmR (X : Cx) (xc : Nat → Option XCls) (W : WX) (op : Cm) (r : R2) : Prop where
  rule : OpR X (compareOp (cmOf op)) r
  hop : ∀ σ F μ S H x y bx bY (Q : VK), Rel X.K F μ S H → BRp X.K F μ H x bx → BRp X.K F μ H y bY → okE X.K xc μ W F H σ (c2 op bx bY S) Q → r x y H Q
theorem cmR {k : Nat} (hr : Room k X.A) (op : Cm) : ∃ r, CmR X xc W op r := by
  have hu := hr.un
  cases op with
  | eq => exact ⟨_, (op_eqD (by omega)).or op_eq, fun σ F μ S H x y bx bY Q r hx hy h => hop_eq r hx hy h⟩
  | ne => exact ⟨_, (op_neD (by omega)).or op_ne, fun σ F μ S H x y bx bY Q r hx hy h => hop_ne r hx hy h⟩
  | lt => exact ⟨_, op_ltA (by omega), fun σ F μ S H x y bx bY Q r hx hy h => hop_lt r hx hy h⟩
  | le => exact ⟨_, op_le, fun σ F μ S H x y bx bY Q r hx hy h => hop_cmI rfl r hx hy h⟩
  | gt => exact ⟨_, op_gt, fun σ F μ S H x y bx bY Q r hx hy h => hop_cmI rfl r hx hy h⟩
  | ge => exact ⟨_, op_ge, fun σ F μ S H x y bx bY Q r hx hy h => hop_cmI rfl r hx hy h⟩
  | isN => exact ⟨_, op_isB, fun σ F μ S H x y bx bY Q r hx hy h => hop_isN r hx hy h⟩
  | notN => exact ⟨_, op_notB, fun σ F μ S H x y bx bY Q r hx hy h => hop_notN r hx hy h⟩
  | in_ => exact ⟨_, op_in_seq.or (op_in_dct (by omega)), fun σ F μ S H x y bx bY Q r hx hy h => hop_in (k := true) rfl r hx hy h⟩
  | notIn => exact ⟨_, op_notIn_seq.or (op_notIn_dct (by omega)), fun σ F μ S H x y bx bY Q r hx hy h => hop_in (k := false) rfl r hx hy h⟩
theorem ev_cmp {op : Cm} {ca cb : CE} : ev G (.cmp op ca cb) = fun ρ s => (ev G ca ρ s).bind fun x s => (ev G cb ρ s).bind fun y s => c2 op x y s := by
  funext ρ s; simp [ev, c2]
theorem r_cmp {k : Nat} {a b : Expr} {ca cb : CE} {op : Cm} {pos : Pos} (hr : Room k X.A) (ha : PE X a (tM X.K xc W (ev G ca))) (hb : PE X b (tM X.K xc W (ev G cb))) (hm : behindInMarks (cmOf op) b = false) :
    PE X (.Compare a [cmOf op] [b] pos) (tM X.K xc W (ev G (.cmp op ca cb))) := by
  obtain ⟨r, c⟩ := cmR (X := X) (xc := xc) (W := W) hr op
  exact PE.weak (pe_cmpR c.rule ha hb hm) fun σ H Q q => bin_rd (g := c2 op) (c.hop σ) (by rw [ev_cmp] at q; exact q)
/-! ### tests -/
/-- a test's reading by the truth of a value -/
theorem tru_rd {m : Env → Store → R B} {Q : Bool → Hp → Prop} (h : tMT K xc W (fun ρ s => (m ρ s).bind fun x s => .of (truB x s) s) σ H Q) : tM K xc W m σ H (fun v H1 => ∃ k, TruV K v H1 k ∧ Q k H1) := by
  obtain ⟨F, μ, S, ρ, rel, er, h⟩ := h
  refine ⟨F, μ, S, ρ, rel, er, okE_bindT h fun F1 H1 v b S1 e1 r1 b1 f1 h1 => ?_⟩
  cases q : truB b S1 with
  | none => rw [q] at h1; exact h1.elim
  | some k => rw [q] at h1; exact ⟨k, tru_of r1 b1 q, h1 F1 H1 (Ext.refl _ _ _) r1⟩
/-- a value that is a bool whatever -/
def IsBl (m : Env → Store → R B) : Prop := ∀ ρ s b s', m ρ s = .ok b s' → ∃ k, b = .t (.bl k)
theorem tru_rdB {m : Env → Store → R B} (hb : IsBl m) {Q : Bool → Hp → Prop} (h : tMT K xc W (fun ρ s => (m ρ s).bind fun x s => .of (truB x s) s) σ H Q) : tM K xc W m σ H (fun v H1 => ∃ k, v = .bl k ∧ Q k H1) := by
  obtain ⟨F, μ, S, ρ, rel, er, h⟩ := h
  refine ⟨F, μ, S, ρ, rel, er, ?_⟩
  have hb2 := hb ρ S
  cases q : m ρ S with
  | ok b S1 =>
    simp only [q, R.bind] at h
    obtain ⟨k, rfl⟩ := hb2 b S1 q
    exact fun F' H' v x r bv _ => ⟨k, rp_bl bv, h F' H' x r⟩
  | ex c p S1 => simp only [q, R.bind] at h; exact h
  | bad => simp only [q, R.bind] at h; exact h
theorem isBl_cmp {op : Cm} {ca cb : CE} : IsBl (ev G (.cmp op ca cb)) := by
  intro ρ s b s' h
  rw [ev_cmp] at h
  dsimp only at h
  cases q : ev G ca ρ s with
  | ok x s1 =>
    rw [q] at h
    simp only [R.bind] at h
    cases q2 : ev G cb ρ s1 with
    | ok y s2 =>
      rw [q2] at h
      simp only [c2] at h
      cases q3 : (x.peek s2).bind fun x => (y.peek s2).bind fun y => (cmp2 op x y).map fun b => B.t (.bl b) with
      | none => rw [q3] at h; cases h
      | some z =>
        rw [q3] at h
        cases h
        cases e1 : x.peek s' with
        | none => rw [e1] at q3; cases q3
        | some d1 =>
          rw [e1] at q3
          cases e2 : y.peek s' with
          | none => rw [e2] at q3; cases q3
          | some d2 =>
            rw [e2] at q3
            obtain ⟨k, _, e⟩ := Option.map_eq_some_iff.mp (show (cmp2 op d1 d2).map (fun b => B.t (.bl b)) = some _ from q3)
            exact ⟨k, e.symm⟩
    | ex c p s2 => rw [q2] at h; cases h
    | bad => rw [q2] at h; cases h
  | ex c p s1 => rw [q] at h; cases h
  | bad => rw [q] at h; cases h
theorem t_cmp {k : Nat} {a b : Expr} {ca cb : CE} {op : Cm} {pos : Pos} (hr : Room k X.A) (ha : PE X a (tM X.K xc W (ev G ca))) (hb : PE X b (tM X.K xc W (ev G cb))) (hm : behindInMarks (cmOf op) b = false) :
    PT X (.Compare a [cmOf op] [b] pos) (tMT X.K xc W (evT G (.cmp op ca cb))) := by
  obtain ⟨r, c⟩ := cmR (X := X) (xc := xc) (W := W) hr op
  refine PT.weak (pt_cmpR c.rule ha hb hm) fun σ H Q q => ?_
  have q2 := tru_rdB (m := ev G (.cmp op ca cb)) isBl_cmp q
  rw [ev_cmp] at q2
  exact bin_rd (g := c2 op) (c.hop σ) q2
theorem t_val {a : Expr} {ca : CE} (ha : PE X a (tM X.K xc W (ev G ca))) (he : ∀ whole, isTrue a X.env whole = (do let v ← whole; standAt a.pos; holding [v] (truthy v))) : PT X a (tMT X.K xc W (evT G ca)) :=
  PT.weak (pt_truth ha he) fun σ H Q q => tru_rd q
theorem evT_not {ca : CE} {ρ : Env} {s : Store} : evT G (.notv ca) ρ s = (evT G ca ρ s).bind fun k s => .ok (!k) s := by
  unfold evT
  rw [show ev G (.notv ca) ρ s = (ev G ca ρ s).bind fun x s => .of ((truB x s).map fun b => .t (.bl (!b))) s from rfl]
  cases ev G ca ρ s with
  | ok x s1 =>
    simp only [R.bind]
    cases truB x s1 <;> rfl
  | ex c p s1 => rfl
  | bad => rfl
theorem okT_bindT {r : R Bool} {g : Bool → Store → R Bool} {Q R' : Bool → Hp → Prop} (h : okT K xc μ W F H σ (r.bind g) Q)
    (k : ∀ F1 H1 b S1, Ext μ F H F1 H1 → Rel K F1 μ S1 H1 → okT K xc μ W F1 H1 σ (g b S1) Q → R' b H1) : okT K xc μ W F H σ r R' := by
  cases r with
  | ok b S1 =>
    refine fun F1 H1 x r1 => k F1 H1 b S1 x r1 ?_
    have h2 : okT K xc μ W F H σ (g b S1) Q := h
    cases q : g b S1 with
    | ok ds S2 => rw [q] at h2; exact fun F' H' e r => h2 F' H' (x.trans e) r
    | ex c p S2 => rw [q] at h2; exact fun F' H' cls d e r q => h2 F' H' cls d (x.trans e) r q
    | bad => rw [q] at h2; exact h2
  | ex c p S1 => exact h
  | bad => exact h
theorem okT_val {S : Store} {k : Bool} {Q : Bool → Hp → Prop} (h : okT K xc μ W F H σ (.ok k S) Q) (r : Rel K F μ S H) : Q k H := h F H (Ext.refl _ _ _) r
theorem t_not {a : Expr} {ca : CE} {pos : Pos} (ha : PT X a (tMT X.K xc W (evT G ca))) : PT X (.UnaryOp .Not a pos) (tMT X.K xc W (evT G (.notv ca))) := by
  refine PT.weak (pt_not ha) fun σ H Q q => ?_
  obtain ⟨F, μ, S, ρ, rel, er, h⟩ := q
  rw [evT_not] at h
  exact ⟨F, μ, S, ρ, rel, er, okT_bindT h fun F1 H1 b S1 e1 r1 h1 => okT_val h1 r1⟩
theorem evT_and {c c' : CE} {cs : List CE} {ρ : Env} {s : Store} : evT G (.andv (c :: c' :: cs)) ρ s = (evT G c ρ s).bind fun k s => if k then evT G (.andv (c' :: cs)) ρ s else .ok false s := by
  unfold evT
  rw [show ev G (.andv (c :: c' :: cs)) ρ s = (ev G c ρ s).bind fun x s => match truB x s with
      | some true => evAnd G (c' :: cs) ρ s
      | some false => .ok x s
      | none => .bad from rfl]
  cases ev G c ρ s with
  | ok x s1 =>
    simp only [R.bind]
    cases q : truB x s1 with
    | none => rfl
    | some k => cases k with
      | true => simp [R.of, ev]
      | false => simp [R.of, R.bind, q]
  | ex c p s1 => rfl
  | bad => rfl
theorem evT_or {c c' : CE} {cs : List CE} {ρ : Env} {s : Store} : evT G (.orv (c :: c' :: cs)) ρ s = (evT G c ρ s).bind fun k s => if k then .ok true s else evT G (.orv (c' :: cs)) ρ s := by
  unfold evT
  rw [show ev G (.orv (c :: c' :: cs)) ρ s = (ev G c ρ s).bind fun x s => match truB x s with
      | some false => evOr G (c' :: cs) ρ s
      | some true => .ok x s
      | none => .bad from rfl]
  cases ev G c ρ s with
  | ok x s1 =>
    simp only [R.bind]
    cases q : truB x s1 with
    | none => rfl
    | some k => cases k with
      | false => simp [R.of, ev]
      | true => simp [R.of, R.bind, q]
  | ex c p s1 => rfl
  | bad => rfl
theorem evT_and1 {c : CE} {ρ : Env} {s : Store} : evT G (.andv [c]) ρ s = evT G c ρ s := by unfold evT; simp [ev, evAnd]
theorem evT_or1 {c : CE} {ρ : Env} {s : Store} : evT G (.orv [c]) ρ s = evT G c ρ s := by unfold evT; simp [ev, evOr]
theorem t_and1 {a : Expr} {c : CE} {pos : Pos} (ha : PT X a (tMT X.K xc W (evT G c))) : PW X (.BoolOp .And [a] pos) (tMT X.K xc W (evT G (.andv [c]))) :=
  PW.weak (pw_and1 ha) fun σ H Q ⟨F, μ, S, ρ, rel, er, h⟩ => ⟨F, μ, S, ρ, rel, er, by rw [evT_and1] at h; exact h⟩
theorem t_or1 {a : Expr} {c : CE} {pos : Pos} (ha : PT X a (tMT X.K xc W (evT G c))) : PW X (.BoolOp .Or [a] pos) (tMT X.K xc W (evT G (.orv [c]))) :=
  PW.weak (pw_or1 ha) fun σ H Q ⟨F, μ, S, ρ, rel, er, h⟩ => ⟨F, μ, S, ρ, rel, er, by rw [evT_or1] at h; exact h⟩
theorem t_and {a b : Expr} {es : List Expr} {c c' : CE} {cs : List CE} {pos : Pos} (ha : PT X a (tMT X.K xc W (evT G c))) (hb : PW X (.BoolOp .And (b :: es) pos) (tMT X.K xc W (evT G (.andv (c' :: cs))))) :
    PW X (.BoolOp .And (a :: b :: es) pos) (tMT X.K xc W (evT G (.andv (c :: c' :: cs)))) := by
  refine PW.weak (pw_and ha hb) fun σ H Q ⟨F, μ, S, ρ, rel, er, h⟩ => ⟨F, μ, S, ρ, rel, er, ?_⟩
  rw [evT_and] at h
  refine okT_bindT h fun F1 H1 k S1 e1 r1 h1 => ?_
  cases k with
  | true => exact ⟨F1, μ, S1, ρ, r1, er.step e1, h1⟩
  | false => exact okT_val h1 r1
theorem t_or {a b : Expr} {es : List Expr} {c c' : CE} {cs : List CE} {pos : Pos} (ha : PT X a (tMT X.K xc W (evT G c))) (hb : PW X (.BoolOp .Or (b :: es) pos) (tMT X.K xc W (evT G (.orv (c' :: cs))))) :
    PW X (.BoolOp .Or (a :: b :: es) pos) (tMT X.K xc W (evT G (.orv (c :: c' :: cs)))) := by
  refine PW.weak (pw_or ha hb) fun σ H Q ⟨F, μ, S, ρ, rel, er, h⟩ => ⟨F, μ, S, ρ, rel, er, ?_⟩
  rw [evT_or] at h
  refine okT_bindT h fun F1 H1 k S1 e1 r1 h1 => ?_
  cases k with
  | false => exact ⟨F1, μ, S1, ρ, r1, er.step e1, h1⟩
  | true => exact okT_val h1 r1
/-! ### not, and, or as values; a if t else b; a < b < c -/
theorem r_neg {a : Expr} {ca : CE} {pos : Pos} (ha : PE X a (tM X.K xc W (ev G ca))) : PE X (.UnaryOp .USub a pos) (tM X.K xc W (ev G (.neg ca))) := by
  refine PE.weak (pe_un un_neg ha) fun σ H Q ⟨F, μ, S, ρ, rel, er, h⟩ => ⟨F, μ, S, ρ, rel, er, ?_⟩
  rw [show ev G (.neg ca) ρ S = (ev G ca ρ S).bind fun x s => match x with
      | .t (.int i) => .ok (.t (.int (-i))) s
      | _ => .bad from rfl] at h
  refine okE_bind h fun F1 H1 v b S1 e1 r1 b1 f1 h1 => ?_
  split at h1
  · rename_i i
    exact ⟨i, rp_int b1, okE_val h1 r1 (.int _) trivial⟩
  · exact h1.elim
theorem r_not {a : Expr} {ca : CE} {pos : Pos} (ha : PE X a (tM X.K xc W (ev G ca))) : PE X (.UnaryOp .Not a pos) (tM X.K xc W (ev G (.notv ca))) := by
  refine PE.weak (pe_notT ha) fun σ H Q ⟨F, μ, S, ρ, rel, er, h⟩ => ⟨F, μ, S, ρ, rel, er, ?_⟩
  rw [show ev G (.notv ca) ρ S = (ev G ca ρ S).bind fun x s => .of ((truB x s).map fun b => .t (.bl (!b))) s from rfl] at h
  refine okE_bind h fun F1 H1 v b S1 e1 r1 b1 f1 h1 => ?_
  cases q : truB b S1 with
  | none => rw [q] at h1; exact h1.elim
  | some k => rw [q] at h1; exact ⟨k, tru_of r1 b1 q, okE_val h1 r1 (.bl _) trivial⟩
theorem r_and1 {op : BoolOp} {a : Expr} {c : CE} {pos : Pos} (ha : PE X a (tM X.K xc W (ev G c))) : PE X (.BoolOp op [a] pos) (tM X.K xc W (ev G c)) := pe_one ha
theorem r_and {a b : Expr} {es : List Expr} {c c' : CE} {cs : List CE} {pos : Pos} (ha : PE X a (tM X.K xc W (ev G c))) (hb : PE X (.BoolOp .And (b :: es) pos) (tM X.K xc W (ev G (.andv (c' :: cs))))) :
    PE X (.BoolOp .And (a :: b :: es) pos) (tM X.K xc W (ev G (.andv (c :: c' :: cs)))) := by
  refine PE.weak (pe_andT ha hb) fun σ H Q ⟨F, μ, S, ρ, rel, er, h⟩ => ⟨F, μ, S, ρ, rel, er, ?_⟩
  rw [show ev G (.andv (c :: c' :: cs)) ρ S = (ev G c ρ S).bind fun x s => match truB x s with
      | some true => ev G (.andv (c' :: cs)) ρ s
      | some false => .ok x s
      | none => .bad from rfl] at h
  refine okE_bind0 h fun F1 H1 v b S1 e1 r1 b1 f1 h1 => ?_
  cases q : truB b S1 with
  | none => rw [q] at h1; exact h1.elim
  | some k =>
    rw [q] at h1
    cases k with
    | true => exact ⟨true, tru_of r1 b1 q, ⟨F1, μ, S1, ρ, r1, er.step e1, okE.step e1 h1⟩⟩
    | false => exact ⟨false, tru_of r1 b1 q, h1 F1 H1 v e1 r1 b1 f1⟩
theorem r_or {a b : Expr} {es : List Expr} {c c' : CE} {cs : List CE} {pos : Pos} (ha : PE X a (tM X.K xc W (ev G c))) (hb : PE X (.BoolOp .Or (b :: es) pos) (tM X.K xc W (ev G (.orv (c' :: cs))))) :
    PE X (.BoolOp .Or (a :: b :: es) pos) (tM X.K xc W (ev G (.orv (c :: c' :: cs)))) := by
  refine PE.weak (pe_orT ha hb) fun σ H Q ⟨F, μ, S, ρ, rel, er, h⟩ => ⟨F, μ, S, ρ, rel, er, ?_⟩
  rw [show ev G (.orv (c :: c' :: cs)) ρ S = (ev G c ρ S).bind fun x s => match truB x s with
      | some false => ev G (.orv (c' :: cs)) ρ s
      | some true => .ok x s
      | none => .bad from rfl] at h
  refine okE_bind0 h fun F1 H1 v b S1 e1 r1 b1 f1 h1 => ?_
  cases q : truB b S1 with
  | none => rw [q] at h1; exact h1.elim
  | some k =>
    rw [q] at h1
    cases k with
    | false => exact ⟨false, tru_of r1 b1 q, ⟨F1, μ, S1, ρ, r1, er.step e1, okE.step e1 h1⟩⟩
    | true => exact ⟨true, tru_of r1 b1 q, h1 F1 H1 v e1 r1 b1 f1⟩
theorem okT_bind0 {r : R Bool} {g : Bool → Store → R B} {Q : VK} {R' : Bool → Hp → Prop} (h : okE K xc μ W F H σ (r.bind g) Q)
    (k : ∀ F1 H1 b S1, Ext μ F H F1 H1 → Rel K F1 μ S1 H1 → okE K xc μ W F H σ (g b S1) Q → R' b H1) : okT K xc μ W F H σ r R' := by
  cases r with
  | ok b S1 => exact fun F1 H1 x r1 => k F1 H1 b S1 x r1 h
  | ex c p S1 => exact h
  | bad => exact h
theorem r_ife {c a b : Expr} {cc ca cb : CE} {pos : Pos} (hc : PT X c (tMT X.K xc W (evT G cc))) (ha : PE X a (tM X.K xc W (ev G ca))) (hb : PE X b (tM X.K xc W (ev G cb))) :
    PE X (.IfExp c a b pos) (tM X.K xc W (ev G (.ife cc ca cb))) := by
  refine PE.weak (pe_ifExp hc ha hb) fun σ H Q ⟨F, μ, S, ρ, rel, er, h⟩ => ⟨F, μ, S, ρ, rel, er, ?_⟩
  have e : ev G (.ife cc ca cb) ρ S = (evT G cc ρ S).bind fun k s => if k then ev G ca ρ s else ev G cb ρ s := by
    rw [show ev G (.ife cc ca cb) ρ S = (ev G cc ρ S).bind fun x s => match truB x s with
      | some true => ev G ca ρ s
      | some false => ev G cb ρ s
      | none => .bad from rfl]
    unfold evT
    cases ev G cc ρ S with
    | ok x s1 =>
      simp only [R.bind]
      cases truB x s1 with
      | none => rfl
      | some k => cases k <;> rfl
    | ex c p s1 => rfl
    | bad => rfl
  rw [e] at h
  refine okT_bind0 h fun F1 H1 k S1 e1 r1 h1 => ?_
  cases k with
  | true => exact ⟨F1, μ, S1, ρ, r1, er.step e1, okE.step e1 h1⟩
  | false => exact ⟨F1, μ, S1, ρ, r1, er.step e1, okE.step e1 h1⟩
/-- a < b < c: the readings -/
def c2o (op : Cm) (x y : B) (s : Store) : Option Bool := (x.peek s).bind fun x => (y.peek s).bind fun y => cmp2 op x y
theorem c2_eq {op : Cm} {x y : B} {s : Store} : c2 op x y s = .of ((c2o op x y s).map fun b => .t (.bl b)) s := by
  unfold c2 c2o
  cases x.peek s with
  | none => rfl
  | some d => cases y.peek s with
    | none => rfl
    | some e => rfl
theorem chain_rd {k : Nat} (hr : Room k X.A) {a b c : Expr} {ca cb cc : CE} {o1 o2 : Cm} {r1 r2 : R2} (C1 : CmR X xc W o1 r1) (C2 : CmR X xc W o2 r2) {Q : VK} (h : tM X.K xc W (ev G (.chain o1 o2 ca cb cc)) σ H Q) :
    tChain r1 r2 (tM X.K xc W (ev G ca)) (tM X.K xc W (ev G cb)) (tM X.K xc W (ev G cc)) σ H Q := by
  obtain ⟨F, μ, S, ρ, rel, er, h⟩ := h
  rw [show ev G (.chain o1 o2 ca cb cc) ρ S = (ev G ca ρ S).bind fun x s => (ev G cb ρ s).bind fun y s =>
      match c2o o1 x y s with
      | some true => (ev G cc ρ s).bind fun z s => c2 o2 y z s
      | some false => .ok (.t (.bl false)) s
      | none => .bad from rfl] at h
  refine ⟨F, μ, S, ρ, rel, er, okE_bind h fun F1 H1 x bx S1 e1 q1 b1 f1 h1 => ⟨F1, μ, S1, ρ, q1, er.step e1, okE_bind h1 fun F2 H2 y bY S2 e2 q2 b2 f2 h2 => ?_⟩⟩
  cases q : c2o o1 bx bY S2 with
  | none => rw [q] at h2; exact h2.elim
  | some v =>
    rw [q] at h2
    refine C1.hop σ F2 μ S2 H2 x y bx bY _ q2 (b1.step e2) b2 ?_
    rw [c2_eq, q]
    intro F3 H3 z e3 q3 bz _
    refine ⟨v, rp_bl bz, ?_⟩
    cases v with
    | true =>
      refine ⟨F3, μ, S2, ρ, q3, (er.step (e1.trans e2)).step e3, ?_⟩
      have h2 := okE.step e3 h2
      exact okE_bind h2 fun F4 H4 z' bz' S4 e4 q4 b4 f4 h4 => C2.hop σ F4 μ S4 H4 y z' bY bz' Q q4 ((b2.step e3).step e4) b4 h4
    | false => exact h2 F3 H3 _ e3 q3 (.bl false) trivial
theorem r_chain {k : Nat} (hr : Room k X.A) {a b c : Expr} {ca cb cc : CE} {o1 o2 : Cm} {pos : Pos} (ha : PE X a (tM X.K xc W (ev G ca))) (hb : PE X b (tM X.K xc W (ev G cb))) (hc : PE X c (tM X.K xc W (ev G cc)))
    (hm : lastMarks [cmOf o1, cmOf o2] [b, c] = false) (h1 : behindInMarks (cmOf o1) b = false) (h2 : behindInMarks (cmOf o2) c = false) :
    PE X (.Compare a [cmOf o1, cmOf o2] [b, c] pos) (tM X.K xc W (ev G (.chain o1 o2 ca cb cc))) := by
  obtain ⟨r1, C1⟩ := cmR (X := X) (xc := xc) (W := W) hr o1
  obtain ⟨r2, C2⟩ := cmR (X := X) (xc := xc) (W := W) hr o2
  exact PE.weak (pe_chain C1.rule C2.rule ha hb hc hm) fun σ H Q q => chain_rd hr (a := a) (b := b) (c := c) C1 C2 q
theorem c2_bl {op : Cm} {x y : B} {s s' : Store} {b : B} (h : c2 op x y s = .ok b s') : ∃ k, b = .t (.bl k) := by
  rw [c2_eq] at h
  cases q : c2o op x y s with
  | none => rw [q] at h; cases h
  | some v => rw [q] at h; cases h; exact ⟨v, rfl⟩
theorem bind_ok {α β : Type} {r : R α} {f : α → Store → R β} {b : β} {s : Store} (h : r.bind f = .ok b s) : ∃ a s1, r = .ok a s1 ∧ f a s1 = .ok b s := by
  cases r with
  | ok a s1 => exact ⟨a, s1, rfl, h⟩
  | ex c p s1 => cases h
  | bad => cases h
theorem isBl_chain {o1 o2 : Cm} {ca cb cc : CE} : IsBl (ev G (.chain o1 o2 ca cb cc)) := by
  intro ρ s b s' h
  rw [show ev G (.chain o1 o2 ca cb cc) ρ s = (ev G ca ρ s).bind fun x s => (ev G cb ρ s).bind fun y s =>
      match c2o o1 x y s with
      | some true => (ev G cc ρ s).bind fun z s => c2 o2 y z s
      | some false => .ok (.t (.bl false)) s
      | none => .bad from rfl] at h
  obtain ⟨x, s1, _, h⟩ := bind_ok h
  obtain ⟨y, s2, _, h⟩ := bind_ok h
  cases q : c2o o1 x y s2 with
  | none => rw [q] at h; cases h
  | some v =>
    rw [q] at h
    cases v with
    | true =>
      obtain ⟨z, s3, _, h⟩ := bind_ok (show (ev G cc ρ s2).bind _ = _ from h)
      exact c2_bl h
    | false => cases h; exact ⟨false, rfl⟩
theorem t_chain {k : Nat} (hr : Room k X.A) {a b c : Expr} {ca cb cc : CE} {o1 o2 : Cm} {pos : Pos} (ha : PE X a (tM X.K xc W (ev G ca))) (hb : PE X b (tM X.K xc W (ev G cb))) (hc : PE X c (tM X.K xc W (ev G cc)))
    (hm : lastMarks [cmOf o1, cmOf o2] [b, c] = false) : PT X (.Compare a [cmOf o1, cmOf o2] [b, c] pos) (tMT X.K xc W (evT G (.chain o1 o2 ca cb cc))) := by
  obtain ⟨r1, C1⟩ := cmR (X := X) (xc := xc) (W := W) hr o1
  obtain ⟨r2, C2⟩ := cmR (X := X) (xc := xc) (W := W) hr o2
  exact PT.weak (pt_chain C1.rule C2.rule ha hb hc hm) fun σ H Q q => chain_rd hr (a := a) (b := b) (c := c) C1 C2 (tru_rdB isBl_chain q)
/-! ### displays -/
theorem d_nil : PA X [] (tMD X.K xc W (evs G [])) := PA.weak pa_nil fun σ H Q ⟨F, μ, S, ρ, rel, er, h⟩ => h F H [] (Ext.refl _ _ _) rel .nil
theorem okD_step {F1 H1 : Hp} {r : R (List D)} {Q : List V → Hp → Prop} (x : Ext μ F H F1 H1) (h : okD K xc μ W F H σ r Q) : okD K xc μ W F1 H1 σ r Q := by
  cases r with
  | ok b S' => exact fun F' H' v e r q => h F' H' v (x.trans e) r q
  | ex c p S' => exact fun F' H' cls d e r q => h F' H' cls d (x.trans e) r q
  | bad => exact h
theorem okD_map {r : R (List D)} {f : List D → List D} {Q R' : List V → Hp → Prop} (h : okD K xc μ W F H σ (r.bind fun xs s => .ok (f xs) s) Q)
    (k : ∀ F1 H1 vs ds S1, Ext μ F H F1 H1 → Rel K F1 μ S1 H1 → RpL K F1 vs ds → okD K xc μ W F1 H1 σ (.ok (f ds) S1) Q → R' vs H1) : okD K xc μ W F H σ r R' := by
  cases r with
  | ok b S1 => exact fun F1 H1 vs x r1 bv => k F1 H1 vs b S1 x r1 bv (okD_step x h)
  | ex c p S1 => exact h
  | bad => exact h
theorem d_cons {e : Expr} {es : List Expr} {c : CE} {cs : List (Bool × CE)} (he : PE X e (tM X.K xc W (ev G c))) (hes : PA X es (tMD X.K xc W (evs G cs))) (hs : starEach (e :: es) X.env = (false, eval e X.env) :: starEach es X.env) :
    PA X (e :: es) (tMD X.K xc W (evs G ((false, c) :: cs))) := by
  refine PA.weak (pa_cons he hes hs) fun σ H Q ⟨F, μ, S, ρ, rel, er, h⟩ => ⟨F, μ, S, ρ, rel, er, ?_⟩
  rw [show evs G ((false, c) :: cs) ρ S = (ev G c ρ S).bind fun x s => match x.frz with
        | some d => (evs G cs ρ s).bind fun xs s => .ok (d :: xs) s
        | none => .bad from rfl] at h
  have h2 : okD X.K xc μ W F H σ (((ev G c ρ S).bind fun x s => .ok x.still s).bind fun x s => match x with
        | .t d => (evs G cs ρ s).bind fun xs s => .ok (d :: xs) s
        | _ => .bad) Q := by
    rw [R.bind_assoc]
    cases q : ev G c ρ S with
    | ok x s1 =>
      rw [q] at h
      cases x with
      | t d => exact h
      | own d => exact h
      | bor d => exact h.elim
      | sc d => exact h.elim
      | r k => exact h.elim
    | ex c p s1 => rw [q] at h; exact h
    | bad => rw [q] at h; exact h
  have h3 : okE X.K xc μ W F H σ ((ev G c ρ S).bind fun x s => .ok x.still s) (fun x H1 => tMD X.K xc W (evs G cs) σ H1 fun xs H2 => Q (x :: xs) H2) := okE_bindD h2 fun F1 H1 v b S1 e1 r1 b1 f1 h1 => by
    cases b with
    | t d =>
      refine ⟨F1, μ, S1, ρ, r1, er.step e1, okD_map h1 fun F2 H2 vs ds S2 e2 r2 b2 h2 => ?_⟩
      exact h2 F2 H2 (v :: vs) (Ext.refl _ _ _) r2 (.cons (Rp.mono e2.fs b1) b2)
    | own d => exact h1.elim
    | bor d => exact h1.elim
    | sc d => exact h1.elim
    | r k => exact h1.elim
  exact okE_still h3
theorem d_star {e : Expr} {es : List Expr} {c : CE} {cs : List (Bool × CE)} {p : Pos} (he : PE X e (tM X.K xc W (ev G c))) (hes : PA X es (tMD X.K xc W (evs G cs))) :
    PA X (.Starred e p :: es) (tMD X.K xc W (evs G ((true, c) :: cs))) := by
  refine PA.weak (StX.pa_star he hes rfl) fun σ H Q ⟨F, μ, S, ρ, rel, er, h⟩ => ⟨F, μ, S, ρ, rel, er, ?_⟩
  rw [show evs G ((true, c) :: cs) ρ S = (ev G c ρ S).bind fun x s => match (x.look s).bind itemsD with
        | some ds => (evs G cs ρ s).bind fun xs s => .ok (ds ++ xs) s
        | none => .bad from rfl] at h
  refine okE_bindD h fun F1 H1 v b S1 e1 r1 b1 f1 h1 => ?_
  cases q : b.look S1 with
  | none => rw [q] at h1; exact h1.elim
  | some d =>
    rw [q] at h1
    have fin : ∀ {a : Addr} {xs : List V} {ds : List D}, v = .ref a → (SqT X.K H1 a xs ∨ SqL X.K H1 a xs) → RpL X.K F1 xs ds → okD X.K xc μ W F1 H1 σ ((evs G cs ρ S1).bind fun xs s => .ok (ds ++ xs) s) Q →
        ∃ p xs, v = V.ref p ∧ (SqT X.K H1 p xs ∨ SqL X.K H1 p xs) ∧ tMD X.K xc W (evs G cs) σ H1 fun ys H2 => Q (xs ++ ys) H2 := fun {a xs ds} ea hs rs h1 =>
      ⟨a, xs, ea, hs, F1, μ, S1, ρ, r1, er.step e1, okD_map h1 fun F2 H2 vs es' S2 e2 r2 b2 h2 => h2 F2 H2 (xs ++ vs) (Ext.refl _ _ _) r2 ((rs.mono e2.fs).append b2)⟩
    cases d with
    | tup ds =>
      obtain ⟨a, xs, ea, ha, ra⟩ := lk_tup r1 b1 q
      exact fin ea (.inl ha) ra h1
    | lst ds =>
      obtain ⟨a, xs, ea, ha, ra⟩ := lk_lst r1 b1 q
      exact fin ea (.inr ha) ra h1
    | non => exact h1.elim
    | dic => exact h1.elim
    | rng _ _ => exact h1.elim
    | dct _ _ => exact h1.elim
    | bl _ => exact h1.elim
    | int _ => exact h1.elim
    | str _ => exact h1.elim
    | ins _ _ => exact h1.elim
theorem r_tup {es : List Expr} {cs : List (Bool × CE)} {x1} {pos : Pos} (h : PA X es (tMD X.K xc W (evs G cs))) : PE X (.Tuple es x1 pos) (tM X.K xc W (ev G (.tup cs))) := by
  refine PE.weak (pe_tup h) fun σ H Q ⟨F, μ, S, ρ, rel, er, h⟩ => ⟨F, μ, S, ρ, rel, er, ?_⟩
  rw [show ev G (.tup cs) ρ S = (evs G cs ρ S).bind fun xs s => if xs.length ≤ line then .ok (.t (.tup xs)) s else .bad from rfl] at h
  refine okD_bind h fun F1 H1 vs ds S1 e1 r1 b1 h1 => ?_
  split at h1
  · rename_i hl
    exact ⟨by rw [b1.length, ← line_eq]; exact hl, fun p hp => okE_tup h1 r1 b1 hp⟩
  · exact h1.elim
theorem r_lst {es : List Expr} {cs : List (Bool × CE)} {pos : Pos} (h : PA X es (tMD X.K xc W (evs G cs))) : PE X (.List es pos) (tM X.K xc W (ev G (.lst cs))) := by
  refine PE.weak (pe_lst h) fun σ H Q ⟨F, μ, S, ρ, rel, er, h⟩ => ⟨F, μ, S, ρ, rel, er, ?_⟩
  rw [show ev G (.lst cs) ρ S = (evs G cs ρ S).bind fun xs s => if xs.length ≤ line then .ok (.own (.lst xs)) s else .bad from rfl] at h
  refine okD_bind0 h fun F1 H1 vs ds S1 e1 r1 b1 h1 => ?_
  split at h1
  · rename_i hl
    refine ⟨by rw [b1.length, ← line_eq]; exact hl, fun p hp => ?_⟩
    refine h1 _ _ _ (e1.trans (Ext.newOwn hp nt_lst)) (r1.newOwn hp) ⟨p, vs, ds, rfl, rfl, upd_same, b1, (r1.out (.of hp)).1, (r1.out (.of hp)).2⟩ fun a e => ?_
    cases e
    exact e1.back (.of hp)
  · exact h1.elim
end
end Zw
set_option Elab.async false
set_option linter.all false
set_option maxRecDepth 100000
/-! Zw5: subscripts, calls, built-ins, comprehensions. -/
namespace Zw
open PySem PySem.Spec PyProof.Rows L2
section
variable {X : Cx} {K : PySem.W.Frag} {xc : Nat → Option XCls} {W : WX} {F : Hp} {μ : List Addr} {S : Store} {H : Hp} {σ : L2.St} {ρ : Env} {G : Gx}
/-! ### subscripts -/
theorem ixD_get {vs : List V} {ds : List D} {i : Int} {d : D} (h : RpL K F vs ds) (e : ixD ds i = some d) : ∃ v, atI vs i = some v ∧ Rp K F v d := by
  unfold ixD at e
  cases q : ixN ds.length i with
  | none => rw [q] at e; cases e
  | some j =>
    rw [q] at e
    obtain ⟨v, h1, h2⟩ := h.get (show ds[j]? = some d from e)
    refine ⟨v, ?_, h2⟩
    unfold atI
    rw [h.length]
    rw [show L2.ixN ds.length i = some j from q]
    exact h1
def gIx (x y : B) (s : Store) : R B := match x.look s, y with
      | some (.tup xs), .t (.int i) => .of ((ixD xs i).map .t) s
      | some (.lst xs), .t (.int i) => .of ((ixD xs i).map .t) s
      | some (.dct ks vs), .t k => if keyOk k then .of ((dctGet k ks vs).map .t) s else .bad
      | _, _ => .bad
/-- what a dict holds -/
def rIxD : L2.R2 := fun x y H Q => ∃ a v, x = .ref a ∧ DGet H a y (some v) ∧ Q v H
theorem ix_dct (hu : X.A.units + 1 < cLine) : IxR X rIxD := by
  intro value slice pins s σ H x y v u Q I rx ry h hs
  obtain ⟨a, w, rfl, g, q⟩ := h
  obtain rfl : v = Value.ref a := rx
  have hT := dict_typeIs I g
  have h2 : wpAny (model X.prog X.w) X.A (getItem (.ref a) u) (EP X pins σ Q) X.xe s := d_getItem hu I g ry fun w' s3 I3 rw' => ⟨w, H, I3, rw', q⟩
  unfold subscriptTail
  refine wpAny_bind ?_
  rw [getitemInPython_of_ne hT.not_modules]
  refine wpAny_bind (wpAny_specialOf hT PySem.F.slot_dict_getitem.lookup ?_)
  have fin : wpAny (model X.prog X.w) X.A (subscripted slice false (.ref a) u) (fun r s₃ => wpAny (model X.prog X.w) X.A (letTemporaryGo value (.ref a) r >>= fun _ => pure r) (EP X pins σ Q) X.xe s₃) X.xe s := by
    rw [hs]
    exact wpAny_operating (wpAny_mono h2 (fun r s₃ h₃ => wpAny_bind (wpAny_letTemporaryGo (wpAny_pure h₃))) fun _ _ x => x)
  first
    | exact wpAny_pure (wpAny_bind fin)
    | exact wpAny_bind (wpAny_pure (wpAny_bind fin))
    | exact wpAny_bind fin
theorem hop_ix {x y : V} {bx bY : B} {Q : VK} (r : Rel K F μ S H) (hx : BRp K F μ H x bx) (hy : BRp K F μ H y bY) (h : okE K xc μ W F H σ (gIx bx bY S) Q) : (rIxL K x y H Q ∨ rIxT K x y H Q) ∨ rIxD x y H Q := by
  unfold gIx at h
  split at h
  · rename_i xs i e1
    cases q : ixD xs i with
    | none => rw [q] at h; exact h.elim
    | some d =>
      rw [q] at h
      obtain ⟨a, vs, ea, ha, ra⟩ := lk_tup r hx e1
      obtain ⟨v, h1, h2⟩ := ixD_get ra q
      exact .inl <| .inr ⟨a, vs, i, v, ea, rp_int hy, ha, h1, okE_val h r h2 trivial⟩
  · rename_i xs i e1
    cases q : ixD xs i with
    | none => rw [q] at h; exact h.elim
    | some d =>
      rw [q] at h
      obtain ⟨a, vs, ea, ha, ra⟩ := lk_lst r hx e1
      obtain ⟨v, h1, h2⟩ := ixD_get ra q
      exact .inl <| .inl ⟨a, vs, i, v, ea, rp_int hy, ha, h1, okE_val h r h2 trivial⟩
  · rename_i ks vs k e1
    split at h
    · rename_i hk
      obtain ⟨q, ed, ev⟩ := key_rp hy hk
      obtain ⟨a, kvs, ea, ha, ek, ra⟩ := lk_dct r hx e1
      cases q2 : dctGet k ks vs with
      | none => rw [q2] at h; exact h.elim
      | some d =>
        rw [q2] at h
        rw [ed, ek] at q2
        obtain ⟨v, h1, h2⟩ := (dct_get q ra).1 d q2
        exact .inr ⟨a, v, ea, by rw [ev, ← h1]; exact DGet.k ha, okE_val h r h2 trivial⟩
    · exact h.elim
  · exact h.elim
def notSlice : Expr → Bool
  | .Slice .. => false
  | _ => true
theorem plainIx {b : Expr} (h : notSlice b = true) : PlainIx b := by
  intro o i
  cases b <;> first | rfl | cases h
theorem r_ix {a b : Expr} {ca cb : CE} {pos : Pos} (hu : X.A.units + 1 < cLine) (ha : PE X a (tM X.K xc W (ev G ca))) (hb : PE X b (tM X.K xc W (ev G cb))) (hs : notSlice b = true) : PE X (.Subscript a b pos) (tM X.K xc W (ev G (.ix ca cb))) :=
  PE.weak (pe_ix ((ix_list.or ix_tup).or (ix_dct hu)) ha hb (plainIx hs)) fun σ H Q q => bin_rd (g := gIx) (fun F μ S H x y bx bY Q r hx hy h => hop_ix r hx hy h) q
/-- a slice's part -/
def okO (K : PySem.W.Frag) (xc : Nat → Option XCls) (μ : List Addr) (W : WX) (F H : Hp) (σ : L2.St) (r : R (Option Int)) (Q : Option Int → Hp → Prop) : Prop := match r with
  | .ok o S' => ∀ F' H', Ext μ F H F' H' → Rel K F' μ S' H' → Q o H'
  | .ex c p S' => ∀ F' H' cls d, Ext μ F H F' H' → Rel K F' μ S' H' → XR K xc F' H' c p cls d → W cls d σ H'
  | .bad => False
def tMO (K : PySem.W.Frag) (xc : Nat → Option XCls) (W : WX) (m : Env → Store → R (Option Int)) : TO := fun σ H Q =>
  ∃ F μ S ρ, Rel K F μ S H ∧ ER K F μ H ρ σ ∧ okO K xc μ W F H σ (m ρ S) Q
theorem PO.weak {e : Option Expr} {t t' : TO} (h : PO X e t) (w : ∀ σ H Q, t' σ H Q → t σ H Q) : PO X e t' := ⟨fun pins s σ H Q I q => h.run pins s σ H Q I (w σ H Q q)⟩
theorem o_none : PO X none (tMO X.K xc W (evO G none)) := PO.weak po_none fun σ H Q ⟨F, μ, S, ρ, rel, er, h⟩ => h F H (Ext.refl _ _ _) rel
theorem o_some {e : Expr} {c : CE} (he : PE X e (tM X.K xc W (ev G c))) : PO X (some e) (tMO X.K xc W (evO G (some c))) := by
  refine PO.weak (po_some he) fun σ H Q ⟨F, μ, S, ρ, rel, er, h⟩ => ⟨F, μ, S, ρ, rel, er, ?_⟩
  rw [show evO G (some c) ρ S = (ev G c ρ S).bind fun x s => match x with
      | .t (.int i) => .ok (some i) s
      | _ => .bad from rfl] at h
  cases q : ev G c ρ S with
  | ok b S1 =>
    rw [q] at h
    intro F1 H1 v e1 r1 bv _
    simp only [R.bind] at h
    split at h
    · exact ⟨_, rp_int bv, h F1 H1 e1 r1⟩
    · exact h.elim
  | ex c p S1 => rw [q] at h; exact h
  | bad => rw [q] at h; exact h
theorem okO_bind {r : R (Option Int)} {g : Option Int → Store → R B} {Q : VK} {R' : Option Int → Hp → Prop} (h : okE K xc μ W F H σ (r.bind g) Q)
    (k : ∀ F1 H1 b S1, Ext μ F H F1 H1 → Rel K F1 μ S1 H1 → okE K xc μ W F1 H1 σ (g b S1) Q → R' b H1) : okO K xc μ W F H σ r R' := by
  cases r with
  | ok b S1 => exact fun F1 H1 x r1 => k F1 H1 b S1 x r1 (okE.step x h)
  | ex c p S1 => exact h
  | bad => exact h
theorem cut_ok {vs : List V} {ds : List D} (h : RpL K F vs ds) (lo hi : Option Int) : RpL K F (cutV vs lo hi) (cut ds lo hi) := by
  unfold cutV cut
  rw [h.length]
  exact (h.drop _).take _
theorem sIx_le {n : Nat} {o : Option Int} : sIx n n o ≤ n := by
  cases o with
  | none => exact Nat.le_refl _
  | some v =>
    show (if v < 0 then (v + n).toNat else min v.toNat n) ≤ n
    split <;> omega
theorem hop_slice {x : V} {bx : B} {lo hi : Option Int} {Q : VK} (r : Rel K F μ S H) (hx : BRp K F μ H x bx) (h : okE K xc μ W F H σ (.of ((bx.look S).bind fun d => slice d lo hi) S) Q) : rSlL K x lo hi H Q ∨ rSlA K x lo hi H Q := by
  cases q : bx.look S with
  | none => rw [q] at h; exact h.elim
  | some d =>
    rw [q] at h
    cases d with
    | tup ds =>
      obtain ⟨a, vs, ea, ha, ra⟩ := lk_tup r hx q
      refine .inr ⟨a, vs, ea, ha, fun hw => ?_, fun _ p hp => okE_tup h r (cut_ok ra lo hi) hp⟩
      have e : cut ds lo hi = ds := by
        unfold cut
        rw [ra.length] at hw
        have w1 : sIx ds.length 0 lo = 0 := hw.1
        have w2 : sIx ds.length ds.length hi = ds.length := hw.2
        rw [w1, w2]
        simp
      have h' : okE K xc μ W F H σ (.ok (.t (.tup (cut ds lo hi))) S) Q := h
      rw [e] at h'
      rw [← ea]
      exact okE_val h' r (lk_t r hx q (fun _ z => by cases z)).2 trivial
    | lst ds =>
      obtain ⟨a, vs, ea, ha, ra⟩ := lk_lst r hx q
      exact .inl ⟨a, vs, ea, ha, fun p hp => okE_lst h r (cut_ok ra lo hi) hp⟩
    | non => exact h.elim
    | bl _ => exact h.elim
    | int _ => exact h.elim
    | str _ => exact h.elim
    | ins _ _ => exact h.elim
    | dic => exact h.elim
    | rng _ _ => exact h.elim
    | dct _ _ => exact h.elim
theorem r_sl {a : Expr} {lo hi : Option Expr} {ca : CE} {cl ch : Option CE} {pos p2 : Pos} (ha : PE X a (tM X.K xc W (ev G ca))) (hl : PO X lo (tMO X.K xc W (evO G cl))) (hh : PO X hi (tMO X.K xc W (evO G ch))) :
    PE X (.Subscript a (.Slice lo hi none p2) pos) (tM X.K xc W (ev G (.sl ca cl ch))) := by
  refine PE.weak (pe_slice (sl_list.or sl_tupA) ha hl hh) fun σ H Q ⟨F, μ, S, ρ, rel, er, h⟩ => ⟨F, μ, S, ρ, rel, er, ?_⟩
  rw [show ev G (.sl ca cl ch) ρ S = (ev G ca ρ S).bind fun x s => (evO G cl ρ s).bind fun lo s => (evO G ch ρ s).bind fun hi s =>
      .of ((x.look s).bind fun d => slice d lo hi) s from rfl] at h
  refine okE_bind h fun F1 H1 x bx S1 e1 r1 b1 f1 h1 => ⟨F1, μ, S1, ρ, r1, er.step e1, okO_bind h1 fun F2 H2 l S2 e2 r2 h2 => ⟨F2, μ, S2, ρ, r2, (er.step e1).step e2, okO_bind h2 fun F3 H3 u S3 e3 r3 h3 => ?_⟩⟩
  exact hop_slice r3 ((b1.step e2).step e3) h3
/-! ### arguments -/
def notStar : Expr → Bool
  | .Starred .. => false
  | _ => true
theorem starEach_plain {e : Expr} {es : List Expr} {env : PySem.Env} (h : notStar e = true) : starEach (e :: es) env = (false, eval e env) :: starEach es env := by
  cases e <;> first | rfl | cases h
theorem backTo_plain {es : List Expr} {env : PySem.Env} {pos : Pos} (h : es.all notStar = true) : (backTo pos (starEach es env)).any (·.1) = false := by
  induction es with
  | nil => rfl
  | cons e es ih =>
    rw [List.all_cons, Bool.and_eq_true] at h
    rw [starEach_plain h.1]
    show (false || (backTo pos (starEach es env)).any (·.1)) = false
    rw [ih h.2] <;> rfl
theorem l_nil : PA X [] (tML X.K xc W (evl G [])) := PA.weak pa_nil fun σ H Q ⟨F, μ, S, ρ, rel, er, h⟩ => h F H [] (Ext.refl _ _ _) rel .nil
theorem l_cons {e : Expr} {es : List Expr} {c : CE} {cs : List CE} (he : PE X e (tM X.K xc W (ev G c))) (hes : PA X es (tML X.K xc W (evl G cs))) (hs : notStar e = true) : PA X (e :: es) (tML X.K xc W (evl G (c :: cs))) := by
  refine PA.weak (pa_cons he hes (starEach_plain hs)) fun σ H Q ⟨F, μ, S, ρ, rel, er, h⟩ => ⟨F, μ, S, ρ, rel, er, ?_⟩
  have h2 : okL X.K xc μ W F H σ (((ev G c ρ S).bind fun x s => .ok x.still s).bind fun x s => (evl G cs ρ s).bind fun xs s => .ok (x :: xs) s) Q := by
    rw [R.bind_assoc]
    exact h
  have h3 : okE X.K xc μ W F H σ ((ev G c ρ S).bind fun x s => .ok x.still s) (fun x H1 => tML X.K xc W (evl G cs) σ H1 fun xs H2 => Q (x :: xs) H2) := okE_bindL h2 fun F1 H1 v b S1 e1 r1 b1 f1 h1 => by
    refine ⟨F1, μ, S1, ρ, r1, er.step e1, ?_⟩
    cases q : evl G cs ρ S1 with
    | ok bs S2 =>
      rw [q] at h1
      exact fun F2 H2 vs e2 r2 b2 => h1 F2 H2 (v :: vs) e2 r2 (.cons (b1.step e2) b2)
    | ex c p S2 => rw [q] at h1; exact h1
    | bad => rw [q] at h1; exact h1
  exact okE_still h3
/-! ### built-ins by name -/
theorem r_b1 {f : Bi} {c : CE} {e : Expr} {x : Str} {p pos : Pos} {r : RV1} (hc : PE X (.Call (.Name x p) [e] [] pos) (tCB r (tCons (tM X.K xc W (ev G c)) tNil)))
    (hop : ∀ σ F μ S H x bx (Q : VK), Rel X.K F μ S H → BRp X.K F μ H x bx → okE X.K xc μ W F H σ (h1 f bx S) Q → r [x] H Q) : PE X (.Call (.Name x p) [e] [] pos) (tM X.K xc W (ev G (.b1 f c))) :=
  PE.weak hc fun σ H Q ⟨F, μ, S, ρ, rel, er, h⟩ => ⟨F, μ, S, ρ, rel, er, okE_bind (g := h1 f) h fun F1 H1 v b S1 e1 r1 b1 f1 h1 => hop σ F1 μ S1 H1 v b Q r1 b1 h1⟩
theorem callR_or {X : Cx} {f : Value} {r1 r2 : List V → Hp → VK → Prop} (h1 : CallR X f r1) (h2 : CallR X f r2) : CallR X f (fun xs H Q => r1 xs H Q ∨ r2 xs H Q) := by
  intro pins s σ H xs us Q I r h
  rcases h with h | h
  · exact h1 pins s σ H xs us Q I r h
  · exact h2 pins s σ H xs us Q I r h
theorem r_isi {ty : Ty} {n : String} {c : CE} {e : Expr} {p p2 pos : Pos} (hn : ty.name = some n) (he : PE X e (tM X.K xc W (ev G c))) (hg : L2.Gl X "isinstance") (hm : X.mg "isinstance" = none) (hT : PE X (.Name (Str.ofString n) p2) (tC (.ty n))) (hs : notStar e = true) :
    PE X (.Call (.Name "isinstance" p) [e, .Name (Str.ofString n) p2] [] pos) (tM X.K xc W (ev G (.b1 (.isi ty) c))) :=
  PE.weak (pe_callB (callR_or call_isi (SlX.call_isiSl (.type n))) hg hm boot_isinstance (pa_cons he (pa_cons hT pa_nil (starEach_plain rfl)) (starEach_plain hs)) (he := starEach_plain hs) (hpl := backTo_plain rfl))
    fun σ H Q ⟨F, μ, S, ρ, rel, er, h⟩ => ⟨F, μ, S, ρ, rel, er, okE_bind (g := h1 (.isi ty)) h fun F1 H1 v b S1 e1 r1 b1 f1 h1 => hop_isi hn r1 b1 h1⟩
theorem r_isiC {y : Str} {c : CE} {e : Expr} {p p2 pos : Pos} (hK : ∀ n ∈ ["NoneType", "bool", "int", "str", "tuple", "list", "dict"], PySem.W.kitOne X.K (.type n) (.ref (He.ga X.K y)) = some false) (he : PE X e (tM X.K xc W (ev G c))) (hg : L2.Gl X "isinstance") (hm : X.mg "isinstance" = none)
    (hT : PE X (.Name y p2) (tC (.ref (He.ga X.K y)))) (hs : notStar e = true) :
    PE X (.Call (.Name "isinstance" p) [e, .Name y p2] [] pos) (tM X.K xc W (ev G (.b1 (.isi (.cls y)) c))) :=
  PE.weak (pe_callB (callR_or call_isi (SlX.call_isiSl (.ref (He.ga X.K y)))) hg hm boot_isinstance (pa_cons he (pa_cons hT pa_nil (starEach_plain rfl)) (starEach_plain hs)) (he := starEach_plain hs) (hpl := backTo_plain rfl))
    fun σ H Q ⟨F, μ, S, ρ, rel, er, h⟩ => ⟨F, μ, S, ρ, rel, er, okE_bind (g := h1 (.isi (.cls y))) h fun F1 H1 v b S1 e1 r1 b1 f1 h1 => hop_isiC hK r1 b1 h1⟩
def attG (y : Str) (i : Nat) (b : B) (s : Store) : R B := match b with
  | .t (.ins z fs) => if y = z then .of (fs[i]?.map .t) s else .bad
  | .r k => .of ((obAt y k s).bind fun fs => fs[i]?.map FB.b) s
  | _ => .bad
/-- an instance that changes, at a place of the store -/
theorem ob_at {y : Str} {k : Nat} {fs : List FB} {F1 H1 : Hp} {S1 : Store} {v : V} (r1 : Rel K F1 μ S1 H1) (b1 : BRp K F1 μ H1 v (.r k)) (h : obAt y k S1 = some fs) : ∃ a dx ws, v = .ref a ∧ μ[k]? = some a ∧ SlX.Slt H1 a (He.ga K y) dx (ws.map some) ∧ SlC K y ∧ FbL K F1 (μ.take k) ws fs ∧ F1 dx = some (.xd []) ∧ S1[k]? = some (.obj y fs) := by
  obtain ⟨a, ea, hk⟩ := b1
  unfold obAt at h
  split at h
  · rename_i z gs q
    by_cases e : y = z
    · subst e
      rw [if_pos rfl] at h
      cases h
      obtain ⟨dx, ws, h1, h2, h3, h4⟩ := r1.ob2 k a y _ hk q
      exact ⟨a, dx, ws, ea, hk, .inr ⟨h1, r1.sub _ _ h2⟩, h3, h4, h2, q⟩
    · rw [if_neg e] at h; cases h
  · cases h
theorem FbL.brp {H1 : Hp} {k i : Nat} {ws : List V} {fs : List FB} {f : FB} (r : FbL K F (μ.take k) ws fs) (e : fs[i]? = some f) : ∃ w, ws[i]? = some w ∧ BRp K F μ H1 w f.b := by
  obtain ⟨w, h1, h2⟩ := r.get e
  refine ⟨w, h1, ?_⟩
  cases f with
  | t d => exact h2
  | r j =>
    obtain ⟨a, ea, ha⟩ := h2
    have l : j < k := by
      have := (List.getElem?_eq_some_iff.mp ha).1
      rw [List.length_take] at this
      omega
    exact ⟨a, ea, by rw [List.getElem?_take_of_lt l] at ha; exact ha⟩
theorem hop_att {y f : Str} {i : Nat} {p : Addr} {F1 H1 : Hp} {S1 : Store} {v : V} {b : B} {Q : VK} (sl : SlX.Slot1 X.K (He.ga X.K y) f p i) (r1 : Rel X.K F1 μ S1 H1) (b1 : BRp X.K F1 μ H1 v b) (h1 : okE X.K xc μ W F1 H1 σ (attG y i b S1) Q) :
    ∃ a C dx p vs j w, v = .ref a ∧ SlX.Slt H1 a C dx vs ∧ SlX.SCls X.K C ∧ SlX.Slot1 X.K C f p j ∧ vs[j]? = some (some w) ∧ Q w H1 := by
  unfold attG at h1
  split at h1
  · rename_i z fs
    by_cases q : y = z
    · subst q
      rw [if_pos rfl] at h1
      obtain ⟨a, dx, ws, ea, st, cl, rs⟩ := slt_of r1 b1
      cases q2 : fs[i]? with
      | none => rw [q2] at h1; exact h1.elim
      | some d =>
        rw [q2] at h1
        obtain ⟨w, hw, rw'⟩ := rs.get q2
        exact ⟨a, _, dx, p, _, i, w, ea, st, cl.cls, sl, by rw [List.getElem?_map, hw]; rfl, okE_val (show okE X.K xc μ W F1 H1 σ (.ok (.t d) S1) Q from h1) r1 rw' trivial⟩
    · rw [if_neg q] at h1
      exact h1.elim
  · rename_i k
    cases q : obAt y k S1 with
    | none => rw [q] at h1; exact h1.elim
    | some fs =>
      rw [q] at h1
      obtain ⟨a, dx, ws, ea, hk, st, cl, fb, _, _⟩ := ob_at r1 b1 q
      have h1 : okE X.K xc μ W F1 H1 σ (.of (fs[i]?.map FB.b) S1) Q := h1
      cases q2 : fs[i]? with
      | none => rw [q2] at h1; exact h1.elim
      | some f =>
        rw [q2] at h1
        obtain ⟨w, hw, bw⟩ := fb.brp (H1 := H1) q2
        exact ⟨a, _, dx, p, _, i, w, ea, st, cl.cls, sl, by rw [List.getElem?_map, hw]; rfl, okE_val (show okE X.K xc μ W F1 H1 σ (.ok f.b S1) Q from h1) r1 bw (by cases f <;> trivial)⟩
  · exact h1.elim
theorem r_att {y f : Str} {i : Nat} {c : CE} {e : Expr} {p : Addr} {pos : Pos} (sl : SlX.Slot1 X.K (He.ga X.K y) f p i) (he : PE X e (tM X.K xc W (ev G c))) (hb : attributeBase e f X.env (eval e X.env) = eval e X.env) : PE X (.Attribute e f pos) (tM X.K xc W (ev G (.att y i c))) := by
  refine PE.weak (SlX.pe_sl he hb) fun σ H Q ⟨F, μ, S, ρ, rel, er, h⟩ => ⟨F, μ, S, ρ, rel, er, ?_⟩
  have h : okE X.K xc μ W F H σ ((ev G c ρ S).bind (attG y i)) Q := by
    have e : ev G (.att y i c) ρ S = (ev G c ρ S).bind (attG y i) := by
      rw [ev]
      rfl
    rw [← e]
    exact h
  exact okE_bind h fun F1 H1 v b S1 e1 r1 b1 f1 h1 => hop_att sl r1 b1 h1
theorem r_b2 {f : Bi} {c c' : CE} {e e' : Expr} {x : Str} {p pos : Pos} {r : RV1} (hc : PE X (.Call (.Name x p) [e, e'] [] pos) (tCB r (tCons (tM X.K xc W (ev G c)) (tCons (tM X.K xc W (ev G c')) tNil))))
    (hop : ∀ σ F μ S H x y bx bY (Q : VK), Rel X.K F μ S H → BRp X.K F μ H x bx → BRp X.K F μ H y bY → okE X.K xc μ W F H σ (h2 f bx bY S) Q → r [x, y] H Q) : PE X (.Call (.Name x p) [e, e'] [] pos) (tM X.K xc W (ev G (.b2 f c c'))) :=
  PE.weak hc fun σ H Q ⟨F, μ, S, ρ, rel, er, h⟩ => ⟨F, μ, S, ρ, rel, er, okE_bind (g := fun x s => (ev G c' ρ s).bind fun y s => h2 f x y s) h fun F1 H1 v b S1 e1 r1 b1 f1 h1 =>
    ⟨F1, μ, S1, ρ, r1, er.step e1, okE_bind (g := fun y s => h2 f b y s) h1 fun F2 H2 y bY S2 e2 r2 b2 f2 h2 => hop σ F2 μ S2 H2 v y b bY Q r2 (b1.step e2) b2 h2⟩⟩
/-! ### slots -/
theorem ER.set (er : ER K F μ H ρ σ) {i : Nat} {v : V} {d : D} (h : Rp K F v d) : ER K F μ H (ρ.set i (some (.t d))) (σ.set i (some v)) := by
  have hl := er.len
  have gs : ∀ (j : Nat) (b : B), (ρ.set i (some (.t d)))[j]? = some (some b) → (j = i ∧ b = .t d ∧ i < ρ.length) ∨ (j ≠ i ∧ ρ[j]? = some (some b)) := fun j b e => by
    by_cases q : j = i
    · subst q
      by_cases l : j < ρ.length
      · rw [List.getElem?_set_self l] at e
        cases e
        exact .inl ⟨rfl, rfl, l⟩
      · rw [List.getElem?_eq_none (by simpa using l)] at e; cases e
    · rw [List.getElem?_set_ne (Ne.symm q)] at e
      exact .inr ⟨q, e⟩
  refine ⟨by simpa using hl, fun j b e => ?_, fun j k d1 d2 a n e1 e2 e3 => ?_⟩
  · rcases gs j b e with ⟨q, e2, l⟩ | ⟨q, e2⟩
    · subst q e2
      exact ⟨v, List.getElem?_set_self (by omega), h⟩
    · obtain ⟨w, h1, h2⟩ := er.val j b e2
      exact ⟨w, by rw [List.getElem?_set_ne (Ne.symm q)]; exact h1, h2⟩
  · have g1 : j ≠ i ∧ ρ[j]? = some (some (.own d1)) := by
      rcases gs j _ e1 with ⟨_, e2, _⟩ | x
      · cases e2
      · exact x
    have g2 : k ≠ i ∧ (ρ[k]? = some (some (.own d2)) ∨ ρ[k]? = some (some (.bor d2))) := by
      rcases e2 with e2 | e2
      · rcases gs k _ e2 with ⟨_, e2, _⟩ | x
        · cases e2
        · exact ⟨x.1, .inl x.2⟩
      · rcases gs k _ e2 with ⟨_, e2, _⟩ | x
        · cases e2
        · exact ⟨x.1, .inr x.2⟩
    rw [List.getElem?_set_ne (Ne.symm g1.1)] at e3
    rw [List.getElem?_set_ne (Ne.symm g2.1)]
    exact er.sep j k d1 d2 a n g1.2 g2.2 e3
theorem ER.unset (er : ER K F μ H ρ σ) (i : Nat) : ER K F μ H (ρ.set i none) (σ.set i none) := by
  have gs : ∀ (j : Nat) (b : B), (ρ.set i none)[j]? = some (some b) → j ≠ i ∧ ρ[j]? = some (some b) := fun j b e => by
    by_cases q : j = i
    · subst q
      by_cases l : j < ρ.length
      · rw [List.getElem?_set_self l] at e; cases e
      · rw [List.getElem?_eq_none (by simpa using l)] at e; cases e
    · rw [List.getElem?_set_ne (Ne.symm q)] at e
      exact ⟨q, e⟩
  refine ⟨by simpa using er.len, fun j b e => ?_, fun j k d1 d2 a n e1 e2 e3 => ?_⟩
  · obtain ⟨q, e2⟩ := gs j b e
    obtain ⟨w, h1, h2⟩ := er.val j b e2
    exact ⟨w, by rw [List.getElem?_set_ne (Ne.symm q)]; exact h1, h2⟩
  · obtain ⟨q1, e1⟩ := gs j _ e1
    have g2 : k ≠ i ∧ (ρ[k]? = some (some (.own d2)) ∨ ρ[k]? = some (some (.bor d2))) := by
      rcases e2 with e2 | e2
      · exact ⟨(gs k _ e2).1, .inl (gs k _ e2).2⟩
      · exact ⟨(gs k _ e2).1, .inr (gs k _ e2).2⟩
    rw [List.getElem?_set_ne (Ne.symm q1)] at e3
    rw [List.getElem?_set_ne (Ne.symm g2.1)]
    exact er.sep j k d1 d2 a n e1 g2.2 e3
theorem ER.wipe (er : ER K F μ H ρ σ) : ∀ vs : List Nat, ER K F μ H (Zw.wipe ρ vs) (L2.wipe σ vs)
  | [] => er
  | v :: vs => (ER.wipe er vs).unset v
theorem wipe_get {σ : L2.St} {i : Nat} : ∀ {vs : List Nat}, i ∈ vs → i < σ.length → (L2.wipe σ vs)[i]? = some none
  | [], h, _ => by simp at h
  | v :: vs, h, hl => by
    unfold L2.wipe
    by_cases q : v = i
    · subst q
      rw [List.getElem?_set_self (by rw [wipe_length]; exact hl)]
    · rw [List.getElem?_set_ne q]
      exact wipe_get ((List.mem_cons.mp h).resolve_left fun z => q z.symm) hl
theorem wipe_out {σ : L2.St} {i : Nat} : ∀ {vs : List Nat}, i ∉ vs → (L2.wipe σ vs)[i]? = σ[i]?
  | [], _ => rfl
  | v :: vs, h => by
    unfold L2.wipe
    rw [List.getElem?_set_ne (fun z => h (by rw [z]; exact List.mem_cons_self))]
    exact wipe_out fun z => h (List.mem_cons_of_mem _ z)
theorem wipe_set {σ : L2.St} {i : Nat} {o : Option V} {vs : List Nat} (h : i ∈ vs) : L2.wipe (σ.set i o) vs = L2.wipe σ vs := by
  refine List.ext_getElem? fun j => ?_
  by_cases hj : j ∈ vs
  · by_cases l : j < σ.length
    · rw [wipe_get hj l, wipe_get hj (by simpa using l)]
    · rw [List.getElem?_eq_none (by rw [wipe_length]; simpa using l), List.getElem?_eq_none (by rw [wipe_length]; simpa using l)]
  · rw [wipe_out hj, wipe_out hj, List.getElem?_set_ne (fun z => hj (by rw [← z]; exact h))]
theorem wipe_wipe {σ : L2.St} {vs : List Nat} : L2.wipe (L2.wipe σ vs) vs = L2.wipe σ vs := by
  refine List.ext_getElem? fun j => ?_
  by_cases hj : j ∈ vs
  · by_cases l : j < σ.length
    · rw [wipe_get hj l, wipe_get hj (by rw [wipe_length]; exact l)]
    · rw [List.getElem?_eq_none (by rw [wipe_length, wipe_length]; simpa using l), List.getElem?_eq_none (by rw [wipe_length]; simpa using l)]
  · rw [wipe_out hj]
/-! ### targets -/
mutual
def gOf (K : PySem.W.Frag) : Tg → TG
  | .nm i => gName i
  | .tup ts => gTup K ts.length (gsOf K ts)
def gsOf (K : PySem.W.Frag) : List Tg → TGs
  | [] => gNil
  | t :: ts => gCons (gOf K t) (gsOf K ts)
end
mutual
def Tg.slots : Tg → List Nat
  | .nm i => [i]
  | .tup ts => slotsAll ts
def slotsAll : List Tg → List Nat
  | [] => []
  | t :: ts => t.slots ++ slotsAll ts
end
mutual
theorem bindT_ok : ∀ (t : Tg) {d : D} {v : V} {ρ ρ' : Env} {σ : L2.St} {Q : L2.St → Hp → Prop}, bindT t d ρ = some ρ' → Same F H → Rp K F v d → ER K F μ H ρ σ →
    (∀ σ', ER K F μ H ρ' σ' → (∀ vs, (∀ i ∈ t.slots, i ∈ vs) → L2.wipe σ' vs = L2.wipe σ vs) → (∀ (i : Nat) (d : D), ρ'[i]? = some (some (B.own d)) → ρ[i]? = some (some (B.own d)) ∧ σ'[i]? = σ[i]?) → Q σ' H) → gOf K t v σ H Q
  | .nm i, d, v, ρ, ρ', σ, Q, h, _, r, er, k => by
    rw [bindT] at h
    cases h
    refine k _ (er.set r) (fun vs hv => wipe_set (hv i (by rw [Tg.slots]; exact List.mem_singleton.mpr rfl))) fun j e h => ?_
    by_cases q : j = i
    · subst q
      by_cases l : j < ρ.length
      · rw [List.getElem?_set_self l] at h; cases h
      · rw [List.getElem?_eq_none (by simpa using l)] at h; cases h
    · rw [List.getElem?_set_ne (Ne.symm q)] at h
      exact ⟨h, List.getElem?_set_ne (Ne.symm q)⟩
  | .tup ts, d, v, ρ, ρ', σ, Q, h, sb, r, er, k => by
    cases r with
    | @tup a xs ds h1 h2 =>
      rw [bindT] at h
      refine ⟨a, xs, rfl, sqT_sub sb h1, ?_, bindTs_ok ts h sb h2 er fun σ' e w o => k σ' e (fun vs hv => w vs (by rw [Tg.slots] at hv; exact hv)) o⟩
      rw [h2.length]
      exact bindTs_len ts h
    | _ => simp [bindT] at h
theorem bindTs_ok : ∀ (ts : List Tg) {ds : List D} {vs : List V} {ρ ρ' : Env} {σ : L2.St} {Q : L2.St → Hp → Prop}, bindTs ts ds ρ = some ρ' → Same F H → RpL K F vs ds → ER K F μ H ρ σ →
    (∀ σ', ER K F μ H ρ' σ' → (∀ vs, (∀ i ∈ slotsAll ts, i ∈ vs) → L2.wipe σ' vs = L2.wipe σ vs) → (∀ (i : Nat) (d : D), ρ'[i]? = some (some (B.own d)) → ρ[i]? = some (some (B.own d)) ∧ σ'[i]? = σ[i]?) → Q σ' H) → gsOf K ts vs σ H Q
  | [], ds, vs, ρ, ρ', σ, Q, h, _, r, er, k => by
    cases r with
    | nil => rw [bindTs] at h; cases h; exact ⟨rfl, k _ er (fun _ _ => rfl) fun _ _ h => ⟨h, rfl⟩⟩
    | cons _ _ => simp [bindTs] at h
  | t :: ts, ds, vs, ρ, ρ', σ, Q, h, sb, r, er, k => by
    cases r with
    | nil => simp [bindTs] at h
    | @cons v vs d ds q r =>
      rw [bindTs] at h
      cases e : bindT t d ρ with
      | none => rw [e] at h; cases h
      | some ρ1 =>
        rw [e] at h
        exact ⟨v, vs, rfl, bindT_ok t e sb q er fun σ1 er1 w1 o1 => bindTs_ok ts h sb r er1 fun σ' er' w2 o2 => k σ' er' (fun us hu =>
          (w2 us fun i hi => hu i (by rw [slotsAll]; exact List.mem_append_right _ hi)).trans (w1 us fun i hi => hu i (by rw [slotsAll]; exact List.mem_append_left _ hi))) fun i d h =>
          ⟨(o1 i d (o2 i d h).1).1, (o2 i d h).2.trans (o1 i d (o2 i d h).1).2⟩⟩
theorem bindTs_len : ∀ (ts : List Tg) {ds : List D} {ρ ρ' : Env}, bindTs ts ds ρ = some ρ' → ds.length = ts.length
  | [], [], _, _, _ => rfl
  | [], _ :: _, _, _, h => by simp [bindTs] at h
  | _ :: _, [], _, _, h => by simp [bindTs] at h
  | t :: ts, d :: ds, ρ, ρ', h => by
    rw [bindTs] at h
    cases e : bindT t d ρ with
    | none => rw [e] at h; cases h
    | some ρ1 =>
      rw [e] at h
      simp [bindTs_len ts h]
end
end
end Zw
set_option Elab.async false
set_option linter.all false
set_option maxRecDepth 100000
/-! ZwE: enumerate of a tuple. -/
namespace PySem
open Sem (wp)
theorem newB1 {v : Value} {o : Obj} {H : Heap → Prop} (B : Begins v o H) :
    Meets (Builtin.«enumerate.__new__» ⟨[.type "enumerate", v], []⟩) (fun _ R s => H s.heap ∧
      R (.ok (.ret (.ref (s.heap.push o).objs.size))) { s with heap := (s.heap.push o).push { cls := .type "enumerate", data := .fields #[.none, .bool false, .ref s.heap.objs.size, rawInt 0, .none, .none] } }) :=
  .of_wp fun prog w A R s h => by
    obtain ⟨hp, gn, dr, tk, os⟩ := s
    obtain ⟨h1, h⟩ := h
    have hsub := sub_enumerate
    have q1 : ∀ {A2 : Around} {E : Value → Shared → Prop} {Q : Value → Shared → Prop}, Q (.ref hp.objs.size) ⟨hp.push o, gn, dr, tk, os⟩ → wpAny (model prog w) A2 (pyIter v) Q E ⟨hp, gn, dr, tk, os⟩ :=
      fun q => B.iter prog w _ _ ⟨hp, gn, dr, tk, os⟩ _ h1 q
    wp_walk using q1
    refine wpAny_stack_any fun _ => wpAny_pure ?_
    split
    · rename_i c _ _ _ _ _
      cases (c == Value.type "enumerate") <;>
      · wp_walk using q1
        exact ⟨_, rfl, h⟩
    · wp_walk using q1
      exact ⟨_, rfl, h⟩
theorem enum1_begins {prog : Program} {w : World} {A : Around} {E : Value → Shared → Prop} {s : Shared} {v : Value} {o : Obj} {H : Heap → Prop} {Q : Value → Shared → Prop} (B : Begins v o H) (h1 : H s.heap)
    (h : ∀ h', IsEnum h' (s.heap.objs.size + 1) s.heap.objs.size 0 .none → h'.get? s.heap.objs.size = some o → (∀ b u, s.heap.get? b = some u → h'.get? b = some u) → Q (.ref (s.heap.objs.size + 1)) { s with heap := h' }) :
    wpAny (model prog w) A (call (.type "enumerate") [v]) Q E s := by
  refine callType_new F.called_enumerate (by decide) (F.typeCall_enumerate_1 _) (F.newCall_enumerate_1 _) (fun obj => F.args_object_init_2 obj _) F.entry_enumerate_new (newB1 B) ⟨h1, ?_⟩
  have hz : (s.heap.push o).objs.size = s.heap.objs.size + 1 := Heap.size_push ..
  have he : ((s.heap.push o).push { cls := .type "enumerate", data := .fields #[.none, .bool false, .ref s.heap.objs.size, rawInt 0, .none, .none] }).get? (s.heap.push o).objs.size = _ := Heap.get?_push_size _ rfl
  show _ ∧ _
  rw [hz] at he ⊢
  exact ⟨⟨_, he, rfl⟩, h _ he (Heap.get?_push_of_some _ (Heap.get?_push_size _ B.free)) fun b u x => Heap.get?_push_of_some _ (Heap.get?_push_of_some _ x)⟩
end PySem
namespace Zw
open PySem PySem.Spec PyProof.Rows L2
/-- the tuple at a, each item in a new pair -/
def IteT (K : PySem.W.Frag) (a : Addr) : It :=
  ⟨fun i H => ∃ (xs : List V) (x : V), SqT K H a xs ∧ xs[i]? = some x, fun i H v H' => ∃ T x, v = .ref T ∧ H T = none ∧ H' = upd H T (.tup [.int (i : Nat), x]) ∧ ∀ xs, SqT K H a xs → xs[i]? = some x, fun i H => ∃ xs : List V, SqT K H a xs ∧ xs.length ≤ i⟩
theorem tupNe {h : Heap} {a e it : Addr} {i : Nat} {j : Int} {old : Value} {its : Array Value} (he : IsEnum h e it j old) (hi : h.IsTupleIter it a i) (p : h.IsTuple a its) : a ≠ it ∧ e ≠ a := by
  obtain ⟨o, e1, c1, _⟩ := p
  obtain ⟨o2, e2, c2, _⟩ := hi
  refine ⟨fun z => ?_, fun z => ?_⟩
  · rw [z, e2] at e1
    have q := congrArg Obj.cls (Option.some.inj e1)
    rw [c1, c2] at q
    injection q with q
    exact absurd q (by decide)
  · rw [← z] at e1
    have q := congrArg Obj.cls (Option.some.inj (e1.symm.trans he))
    rw [c1] at q
    injection q with q
    exact absurd q (by decide)
theorem turn_enumT {P : Program} {w : World} {K : PySem.W.Frag} {elts : List Expr} {kk : Nat} {tpos : Pos} (a e it : Addr) :
    Turn P w K (.Tuple elts kk tpos) (IteT K a) [e, it] e (fun i h => (∃ old, IsEnum h e it ((i : Nat) : Int) old) ∧ h.IsTupleIter it a i ∧ e ≠ it) := by
  have two : ∀ {b : Addr}, b ∈ [e, it] → b = e ∨ b = it := fun h => by simpa using h
  constructor
  · simp
  · intro i h ⟨⟨old, he⟩, ⟨o, ho, hc, hd⟩, _⟩ b hb
    rcases two hb with z | z
    · subst z; exact ⟨_, he, fun v q => nomatch q⟩
    · subst z; exact ⟨o, ho, fun v q => by rw [hd] at q; cases q⟩
  · intro i h h' ⟨⟨old, he⟩, hi, hne⟩ k
    exact ⟨⟨old, k e List.mem_cons_self _ he⟩, hi.at fun o q => k it (by simp) o q, hne⟩
  · intro X hP hw hK hc i pins s σ H E I hf ⟨⟨old, he⟩, hit, hne⟩ ⟨xs, x, hq, hx⟩
    subst hP hw hK
    obtain ⟨its, rv, p, _⟩ := I.tuple hq
    have p : s.heap.IsTuple a its.toArray := p
    obtain ⟨u, hu, ru⟩ := rv.get hx
    obtain ⟨n1, n2⟩ := tupNe he hit p
    have hlt : i < its.toArray.size := by
      rw [List.size_toArray]
      exact (List.getElem?_eq_some_iff.mp hu).1
    have lE : e < s.heap.objs.size := Heap.lt_size he
    have lI : it < s.heap.objs.size := by obtain ⟨_, q, _⟩ := hit; exact Heap.lt_size q
    refine wpAny_pyNext_enum_itemD (Draws.tuple (show X.A.in1.handled = none from I.ok.hd hc) it a n1 its.toArray) he ⟨hit, p⟩ hlt hne (by simp [hne, n2]) fun u2 h' tk hu2 out ⟨hit', _⟩ hT _ hk => ?_
    have eu : u2 = u := by
      have z : its.toArray[i]? = some u2 := hu2
      rw [List.getElem?_toArray, hu] at z
      cases z
      rfl
    subst eu
    refine ⟨_, rfl, wpAny_letOwnedTupleGo_enum (s := { s with heap := h', toks := tk + 1 }) out fun h2 he2 sb => ?_⟩
    have at2 : h2.get? s.heap.objs.size = some { cls := .type "tuple", data := .seq #[.int i tk, u2] } := (sb.2 _ (Nat.ne_of_gt lE)).trans hT
    have new : ObjOk X.prog X.w (upd H s.heap.objs.size (.tup [.int (i : Nat), x])) h2 s.heap.objs.size (.tup [.int (i : Nat), x]) :=
      ⟨by show 2 ≤ sizeLine; decide, [.int i tk, u2], .cons ⟨_, rfl⟩ (.cons ru .nil), ⟨_, at2, rfl, _, rfl⟩⟩
    have I2 : Inv X pins σ (upd H s.heap.objs.size (.tup [.int (i : Nat), x])) { s with heap := h2, toks := tk + 1 } := by
      refine I.turnedNew (ch := [e, it]) (fun b o hb q => ?_) hf (Nat.le_refl _) new
      have b1 : b ≠ e := fun z => hb (by simp [z])
      have b2 : b ≠ it := fun z => hb (by simp [z])
      exact (sb.2 b b1).trans (hk b o b1 b2 q)
    refine ⟨.ref s.heap.objs.size, _, I2, rfl, ⟨_, x, rfl, I.hok.fresh (Nat.le_refl _), rfl, fun ys hy => by rw [I.tuple_inj hy hq]; exact hx⟩, ⟨⟨u2, ?_⟩, hit'.at fun o q => (sb.2 it (Ne.symm hne)).trans q, hne⟩, fun b hb => ?_⟩
    · rw [show ((i + 1 : Nat) : Int) = (i : Int) + 1 from by omega]
      exact he2
    · rw [upd_ne (Nat.ne_of_lt (by rcases two hb with z | z <;> subst z <;> assumption))]
      exact (hf b hb).1
  · intro X hP hw hK hc i pins s σ H E I hf ⟨⟨old, he⟩, hit, hne⟩ ⟨xs, hq, hx⟩
    subst hP hw hK
    obtain ⟨its, rv, p, _⟩ := I.tuple hq
    have p : s.heap.IsTuple a its.toArray := p
    obtain ⟨f0, f1, f2, f3, f4, f5⟩ := hf it (by simp)
    obtain ⟨n1, n2⟩ := tupNe he hit p
    have hl := rv.length
    have D' : Draws X.prog X.w X.A.in1 it [it, a] 0 (fun _ _ => True) (fun j h => h.IsTupleIter it a (i + j) ∧ h.IsTuple a its.toArray) :=
      ⟨fun _ _ st => let ⟨o, ho, _⟩ := st.1; ⟨o, ho⟩, fun _ _ _ st hk => ⟨st.1.at fun o e => hk it (by simp) o e, st.2.at fun o e => hk a (by simp) o e⟩, fun j s Q E hj => absurd hj (Nat.not_lt_zero j),
        fun s Q E st hE => wpAny_nextOf_tuple_end (I.ok.hd hc) st.1 st.2 (by rw [List.getElem?_toArray]; exact List.getElem?_eq_none_iff.mpr (by omega)) hE⟩
    exact wpAny_pyNext_enum_endD D' he ⟨hit, p⟩ fun h' eb => ⟨rfl, I.turned (t' := s.toks) (fun b o hb q => eb b o hb q) f0 f1 f3 f4 f5⟩
  · intro A i s Q E ⟨⟨_, he⟩, _⟩ h
    exact wpAny_pyIter_enum he h
def iEnumT (K : PySem.W.Frag) (ta : TA) : TI := fun σ H R => ta σ H fun vs H1 => ∃ a xs, vs = [.ref a] ∧ SqT K H1 a xs ∧ R (IteT K a) H1
theorem pi_enumT {X : Cx} {e : Expr} {ta : TA} {p pos tpos : Pos} {elts : List Expr} {kk : Nat} (hg : L2.Gl X "enumerate") (hm : X.mg "enumerate" = none) (ha : PA X [e] ta) (hs : starEach [e] X.env = [(false, eval e X.env)]) :
    PI X (.Tuple elts kk tpos) (.Call (.Name "enumerate" p) [e] [] pos) (iEnumT X.K ta) := by
  constructor
  intro pins s σ H R I h
  refine Call_ (ld_blt I hg hm boot_enumerate (PyProof.Rows.callWith_type1 (thn (ha.run pos pins s σ H _ I h) ?_) hs rfl))
  rintro us s1 ⟨vs, H1, I1, r1, a, xs, ex, hq, q⟩
  subst ex
  match us, r1 with
  | [u], .cons r .nil =>
    obtain rfl : u = Value.ref a := r
    obtain ⟨its, rv, p', _⟩ := I1.tuple hq
    refine enum1_begins (begins_tuple a its.toArray) p' fun h' he hit hk => wpAny_pyIter_enum he ?_
    have I2 : Inv X pins σ H1 { s1 with heap := h' } := I1.kept (t' := s1.toks) hk
    refine ⟨s1.heap.objs.size + 1, [s1.heap.objs.size + 1, s1.heap.objs.size], _, IteT X.K a, H1, rfl, I2, turn_enumT a (s1.heap.objs.size + 1) s1.heap.objs.size, ⟨⟨.none, he⟩, ⟨_, hit, rfl, rfl⟩, Nat.succ_ne_self _⟩, fun b hb => ?_, q⟩
    have le : s1.heap.objs.size ≤ b := by
      rcases (show b = s1.heap.objs.size + 1 ∨ b = s1.heap.objs.size by simpa using hb) with z | z <;> rw [z]
      · exact Nat.le_succ _
      · exact Nat.le_refl _
    exact I1.fpOk le (I1.hok.fresh le)
end Zw
set_option Elab.async false
set_option linter.all false
set_option maxRecDepth 100000
set_option maxHeartbeats 2000000
/-! ZwZ: zip of any two things that are walked by an iterator of their own; of a tuple and a list. -/
namespace Zw
open PySem PySem.Spec PyProof.Rows L2
/-- the iterator at it stands in l: P h k: before the item k -/
structure Wkr (prog : Program) (w : World) (it l : Addr) (P : Heap → Nat → Prop) (its : Array Value) : Prop where
  item : ∀ {A : Around} {E : Value → Shared → Prop} {s : Shared} {Q : Value → Shared → Prop} {k : Nat} {x : Value}, P s.heap k → its[k]? = some x → (∀ h', P h' (k + 1) → Heap.SameBut it s.heap h' → Q x { s with heap := h' }) → wpAny (model prog w) A (Builtin.SmallTypes.nextOf (.ref it)) Q E s
  stop : ∀ {A : Around} {E : Value → Shared → Prop} {s : Shared} {Q : Value → Shared → Prop} {k : Nat}, A.handled = none → P s.heap k → its[k]? = none → (∀ h' e, Heap.ExtBut it s.heap h' → (∃ o, h'.get? e = some o ∧ o.cls = .type "StopIteration") → E (.ref e) { s with heap := h' }) → wpAny (model prog w) A (Builtin.SmallTypes.nextOf (.ref it)) Q E s
  keep : ∀ {h h' : Heap} {b : Addr} {k : Nat}, P h k → Heap.ExtBut b h h' → it ≠ b → l ≠ b → P h' k
  lt : ∀ {h : Heap} {k : Nat}, P h k → it < h.objs.size
theorem wkr_tup {prog : Program} {w : World} {it l : Addr} {its : Array Value} (n : l ≠ it) : Wkr prog w it l (fun h k => h.IsTupleIter it l k ∧ h.IsTuple l its) its where
  item := fun p hx q => RZ.nextOf_tuple_item p.1 p.2 hx fun h' a b => q h' ⟨a, p.2.extBut b.extBut n⟩ b
  stop := fun hh p hx q => RZ.nextOf_tuple_end hh p.1 p.2 hx q
  keep := fun p x a b => ⟨p.1.extBut x a, p.2.extBut x b⟩
  lt := fun p => by obtain ⟨⟨_, e, _⟩, _⟩ := p; exact Heap.lt_size e
theorem wkr_lst {prog : Program} {w : World} {it l : Addr} {its : Array Value} (n : l ≠ it) : Wkr prog w it l (fun h k => h.IsListIter it l k ∧ h.IsList l its) its where
  item := fun p hx q => wpAny_nextOf_list_item p.1 p.2 hx fun h' a b => q h' ⟨a, p.2.extBut b.extBut n⟩ b
  stop := fun hh p hx q => wpAny_nextOf_list_end hh p.1 p.2 hx q
  keep := fun p x a b => ⟨p.1.extBut x a, p.2.extBut x b⟩
  lt := fun p => by obtain ⟨⟨_, e, _⟩, _⟩ := p; exact Heap.lt_size e
section
variable {prog : Program} {w : World} {A : Around} {E : Value → Shared → Prop} {s : Shared} {z TI TO i1 i2 l1 l2 : Addr} {P1 P2 : Heap → Nat → Prop} {xs ys : Array Value} {k1 k2 : Nat} {a b : Value}
theorem zipG_item {x y : Value} {Q : Value → Shared → Prop} (D : ZipApart z TI TO i1 i2 l1 l2) (W1 : Wkr prog w i1 l1 P1 xs) (W2 : Wkr prog w i2 l2 P2 ys) (hz : IsZip s.heap z TI TO .none) (hTI : IsPair s.heap TI (.ref i1) (.ref i2)) (hTO : IsPair s.heap TO a b)
    (h1 : P1 s.heap k1) (h2 : P2 s.heap k2) (hx : xs[k1]? = some x) (hy : ys[k2]? = some y)
    (hQ : ∀ h', IsZip h' z TI TO (rawInt s.heap.objs.size) → IsPair h' TO x y → P1 h' (k1 + 1) → P2 h' (k2 + 1) → IsPair h' s.heap.objs.size x y → h'.objs.size = s.heap.objs.size + 1 →
      (∀ c o, c ≠ z → c ≠ TO → c ≠ i1 → c ≠ i2 → s.heap.get? c = some o → h'.get? c = some o) → Q (.ref s.heap.objs.size) { s with heap := h' }) :
    wpAny (model prog w) A (Builtin.«zip.__next__» ⟨[.ref z], []⟩) (fun fin s' => ∃ v, fin = .done (.ret v) ∧ Q v s') E s := by
  show wpAny _ _ (field (.ref z) 2 >>= _) _ _ _
  refine wpAny_bind (wpAny_field hz rfl (x := .bool false) rfl ?_)
  show wpAny _ _ (field (.ref z) 3 >>= _) _ _ _
  refine wpAny_bind (wpAny_field hz rfl (x := .ref TI) rfl ?_)
  refine wpAny_bind (wpAny_seqItems hTI rfl ?_)
  show wpAny _ _ (Builtin.SmallTypes.ownedTupleIsFree (.ref z) >>= _) _ _ _
  refine wpAny_bind ?_
  unfold Builtin.SmallTypes.ownedTupleIsFree
  refine wpAny_bind (wpAny_field hz rfl (x := .none) rfl (wpAny_pure ?_))
  simp only [if_true]
  refine wpAny_bind (wpAny_rule ?_)
  refine wpAny_bind (wpAny_field hz rfl (x := .ref TO) rfl ?_)
  refine wpAny_bind (wpAny_setField_rec hz (by simp) fun h₁ hz₁ hs₁ => ?_)
  replace hz₁ : IsZip h₁ z TI TO .ellipsis := hz₁
  refine wpAny_bind ?_
  simp only [List.zipIdx_cons, List.zipIdx_nil, List.forIn_cons, List.forIn_nil]
  refine wpAny_bind (wpAny_bind (wpAny_onRaise ?_))
  show wpAny _ _ (Builtin.SmallTypes.nextOf (.ref i1) >>= _) _ _ _
  refine wpAny_bind (W1.item (W1.keep h1 hs₁.extBut D.i1z D.l1z) hx fun h₂ h1₂ hs₂ => wpAny_pure ?_)
  have hTO₂ : IsPair h₂ TO a b := hs₂.extBut _ _ D.TOi1 (hs₁.extBut _ _ D.TOz hTO)
  refine wpAny_bind (wpAny_seqItems hTO₂ rfl ?_)
  refine wpAny_bind (wpAny_updateSeq_pair hTO₂ fun h₃ hTO₃ hs₃ => ?_)
  replace hTO₃ : IsPair h₃ TO x b := hTO₃
  refine wpAny_bind (wpAny_letGo (wpAny_pure ?_))
  refine wpAny_bind (wpAny_bind (wpAny_onRaise ?_))
  show wpAny _ _ (Builtin.SmallTypes.nextOf (.ref i2) >>= _) _ _ _
  have h2₃ : P2 h₃ k2 := W2.keep (W2.keep (W2.keep h2 hs₁.extBut D.i2z D.l2z) hs₂.extBut D.i12.symm D.l2i1) hs₃.extBut D.TOi2.symm D.l2TO
  refine wpAny_bind (W2.item h2₃ hy fun h₄ h2₄ hs₄ => wpAny_pure ?_)
  have hTO₄ : IsPair h₄ TO x b := hs₄.extBut _ _ D.TOi2 hTO₃
  refine wpAny_bind (wpAny_seqItems hTO₄ rfl ?_)
  refine wpAny_bind (wpAny_updateSeq_pair hTO₄ fun h₅ hTO₅ hs₅ => ?_)
  replace hTO₅ : IsPair h₅ TO x y := hTO₅
  refine wpAny_bind (wpAny_letGo (wpAny_pure (wpAny_pure ?_)))
  refine wpAny_bind (wpAny_seqItems hTO₅ rfl ?_)
  refine wpAny_bind (wpAny_newTuple ?_)
  have hsz : h₅.objs.size = s.heap.objs.size := by rw [hs₅.1, hs₄.1, hs₃.1, hs₂.1, hs₁.1]
  have hz₅ : IsZip h₅ z TI TO .ellipsis := hs₅.extBut _ _ D.TOz.symm (hs₄.extBut _ _ D.i2z.symm (hs₃.extBut _ _ D.TOz.symm (hs₂.extBut _ _ D.i1z.symm hz₁)))
  have hk₅ : ∀ c o, c ≠ z → c ≠ TO → c ≠ i1 → c ≠ i2 → s.heap.get? c = some o → h₅.get? c = some o := fun c o c1 c2 c3 c4 e =>
    hs₅.extBut _ _ c2 (hs₄.extBut _ _ c4 (hs₃.extBut _ _ c2 (hs₂.extBut _ _ c3 (hs₁.extBut _ _ c1 e))))
  have h1₅ : P1 h₅ (k1 + 1) := W1.keep (W1.keep (W1.keep h1₂ hs₃.extBut D.TOi1.symm D.l1TO) hs₄.extBut D.i12 D.l1i2) hs₅.extBut D.TOi1.symm D.l1TO
  have h2₅ : P2 h₅ (k2 + 1) := W2.keep h2₄ hs₅.extBut D.TOi2.symm D.l2TO
  have hzlt : z < h₅.objs.size := Heap.lt_size hz₅
  show wpAny _ _ (Builtin.SmallTypes.ownedTupleHandOut (.ref z) (.ref h₅.objs.size) >>= _) _ _ _
  refine wpAny_bind ?_
  unfold Builtin.SmallTypes.ownedTupleHandOut
  have hz₆ : IsZip (h₅.push { cls := .type "tuple", data := .seq #[x, y] }) z TI TO .ellipsis := Heap.get?_push_of_some _ hz₅
  refine wpAny_bind (wpAny_setField_rec hz₆ (by simp) fun h₇ hz₇ hs₇ => ?_)
  replace hz₇ : IsZip h₇ z TI TO (rawInt h₅.objs.size) := hz₇
  refine wpAny_setField_rec hz₇ (by simp) fun h₈ hz₈ hs₈ => ?_
  replace hz₈ : IsZip h₈ z TI TO (rawInt h₅.objs.size) := hz₈
  have up : ∀ c o, c ≠ z → h₅.get? c = some o → h₈.get? c = some o := fun c o c1 e => hs₈.extBut _ _ c1 (hs₇.extBut _ _ c1 (Heap.get?_push_of_some _ e))
  have hT₈ : IsPair h₈ h₅.objs.size x y := hs₈.extBut _ _ (Nat.ne_of_gt hzlt) (hs₇.extBut _ _ (Nat.ne_of_gt hzlt) (Heap.get?_push_size _ rfl))
  have hz8 : h₈.objs.size = h₅.objs.size + 1 := by rw [hs₈.1, hs₇.1, Heap.size_push]
  have up2 : Heap.ExtBut z h₅ h₈ := fun c o c1 e => up c o c1 e
  rw [hsz] at hz₈ hT₈ hz8
  refine wpAny_pure ⟨_, rfl, ?_⟩
  show Q (.ref h₅.objs.size) _
  rw [hsz]
  exact hQ h₈ hz₈ (up _ _ D.TOz hTO₅) (W1.keep h1₅ up2 D.i1z D.l1z) (W2.keep h2₅ up2 D.i2z D.l2z) hT₈ hz8 fun c o c1 c2 c3 c4 e => up c o c1 (hk₅ c o c1 c2 c3 c4 e)
theorem zipG_end {Q : Fin → Shared → Prop} (hh : A.handled = none) (D : ZipApart z TI TO i1 i2 l1 l2) (W1 : Wkr prog w i1 l1 P1 xs) (W2 : Wkr prog w i2 l2 P2 ys) (hz : IsZip s.heap z TI TO .none) (hTI : IsPair s.heap TI (.ref i1) (.ref i2)) (hTO : IsPair s.heap TO a b)
    (h1 : P1 s.heap k1) (h2 : P2 s.heap k2) (hend : xs[k1]? = none ∨ ys[k2]? = none)
    (hE : ∀ h' e, (∀ c o, c ≠ z → c ≠ TO → c ≠ i1 → c ≠ i2 → s.heap.get? c = some o → h'.get? c = some o) → (∃ o, h'.get? e = some o ∧ o.cls = .type "StopIteration") → E (.ref e) { s with heap := h' }) :
    wpAny (model prog w) A (Builtin.«zip.__next__» ⟨[.ref z], []⟩) Q E s := by
  show wpAny _ _ (field (.ref z) 2 >>= _) _ _ _
  refine wpAny_bind (wpAny_field hz rfl (x := .bool false) rfl ?_)
  show wpAny _ _ (field (.ref z) 3 >>= _) _ _ _
  refine wpAny_bind (wpAny_field hz rfl (x := .ref TI) rfl ?_)
  refine wpAny_bind (wpAny_seqItems hTI rfl ?_)
  show wpAny _ _ (Builtin.SmallTypes.ownedTupleIsFree (.ref z) >>= _) _ _ _
  refine wpAny_bind ?_
  unfold Builtin.SmallTypes.ownedTupleIsFree
  refine wpAny_bind (wpAny_field hz rfl (x := .none) rfl (wpAny_pure ?_))
  simp only [if_true]
  refine wpAny_bind (wpAny_rule ?_)
  refine wpAny_bind (wpAny_field hz rfl (x := .ref TO) rfl ?_)
  refine wpAny_bind (wpAny_setField_rec hz (by simp) fun h₁ hz₁ hs₁ => ?_)
  replace hz₁ : IsZip h₁ z TI TO .ellipsis := hz₁
  refine wpAny_bind ?_
  simp only [List.zipIdx_cons, List.zipIdx_nil, List.forIn_cons, List.forIn_nil]
  refine wpAny_bind (wpAny_bind (wpAny_onRaise ?_))
  show wpAny _ _ (Builtin.SmallTypes.nextOf (.ref i1) >>= _) _ _ _
  cases hx : xs[k1]? with
  | none =>
    refine wpAny_bind (W1.stop hh (W1.keep h1 hs₁.extBut D.i1z D.l1z) hx fun h₂ e hs₂ he => ?_)
    obtain ⟨oe, hoe, hce⟩ := he
    have hz₂ : IsZip h₂ z TI TO .ellipsis := hs₂ _ _ D.i1z.symm hz₁
    have hez : e ≠ z := fun x => by subst x; rw [hz₂] at hoe; cases hoe; simp at hce
    refine wpAny_setField_rec hz₂ (by simp) fun h₃ _ hs₃ => hE h₃ e (fun c o c1 _ c3 _ x => hs₃.extBut _ _ c1 (hs₂ _ _ c3 (hs₁.extBut _ _ c1 x))) ⟨oe, hs₃.extBut _ _ hez hoe, hce⟩
  | some x =>
    have hy : ys[k2]? = none := by rcases hend with h | h; rw [hx] at h; cases h; exact h
    refine wpAny_bind (W1.item (W1.keep h1 hs₁.extBut D.i1z D.l1z) hx fun h₂ h1₂ hs₂ => wpAny_pure ?_)
    have hTO₂ : IsPair h₂ TO a b := hs₂.extBut _ _ D.TOi1 (hs₁.extBut _ _ D.TOz hTO)
    refine wpAny_bind (wpAny_seqItems hTO₂ rfl ?_)
    refine wpAny_bind (wpAny_updateSeq_pair hTO₂ fun h₃ hTO₃ hs₃ => ?_)
    refine wpAny_bind (wpAny_letGo (wpAny_pure ?_))
    refine wpAny_bind (wpAny_bind (wpAny_onRaise ?_))
    show wpAny _ _ (Builtin.SmallTypes.nextOf (.ref i2) >>= _) _ _ _
    refine wpAny_bind (W2.stop hh (W2.keep (W2.keep (W2.keep h2 hs₁.extBut D.i2z D.l2z) hs₂.extBut D.i12.symm D.l2i1) hs₃.extBut D.TOi2.symm D.l2TO) hy fun h₄ e hs₄ he => ?_)
    obtain ⟨oe, hoe, hce⟩ := he
    have hz₄ : IsZip h₄ z TI TO .ellipsis := hs₄ _ _ D.i2z.symm (hs₃.extBut _ _ D.TOz.symm (hs₂.extBut _ _ D.i1z.symm hz₁))
    have hez : e ≠ z := fun x => by subst x; rw [hz₄] at hoe; cases hoe; simp at hce
    refine wpAny_setField_rec hz₄ (by simp) fun h₅ _ hs₅ => hE h₅ e (fun c o c1 c2 c3 c4 x => hs₅.extBut _ _ c1 (hs₄ _ _ c4 (hs₃.extBut _ _ c2 (hs₂.extBut _ _ c3 (hs₁.extBut _ _ c1 x))))) ⟨oe, hs₅.extBut _ _ hez hoe, hce⟩
theorem nextG_item {x y : Value} {Q : Option Value → Shared → Prop} (D : ZipApart z TI TO i1 i2 l1 l2) (W1 : Wkr prog w i1 l1 P1 xs) (W2 : Wkr prog w i2 l2 P2 ys) (hz : IsZip s.heap z TI TO .none) (hTI : IsPair s.heap TI (.ref i1) (.ref i2)) (hTO : IsPair s.heap TO a b)
    (h1 : P1 s.heap k1) (h2 : P2 s.heap k2) (hx : xs[k1]? = some x) (hy : ys[k2]? = some y)
    (hQ : ∀ h', IsZip h' z TI TO (rawInt s.heap.objs.size) → IsPair h' TO x y → P1 h' (k1 + 1) → P2 h' (k2 + 1) → IsPair h' s.heap.objs.size x y → h'.objs.size = s.heap.objs.size + 1 →
      (∀ c o, c ≠ z → c ≠ TO → c ≠ i1 → c ≠ i2 → s.heap.get? c = some o → h'.get? c = some o) → Q (some (.ref s.heap.objs.size)) { s with heap := h' }) : wpAny (model prog w) A (pyNext (.ref z)) Q E s := by
  have hT : s.TypeIs (.ref z) "zip" := ⟨_, hz, rfl⟩
  unfold pyNext
  exact wpAny_bind (wpAny_attempt (wpAny_callSpecial?_slot (name := Str.ofString "__next__") hT F.slot_zip_next
    (wpAny_call_entry F.slot_zip_next hT F.entry_zip_next (zipG_item D W1 W2 hz hTI hTO h1 h2 hx hy fun h' a1 a2 a3 a4 a5 a6 a7 => wpAny_pure (hQ h' a1 a2 a3 a4 a5 a6 a7)) (F.args_zip_next_1 _))))
theorem nextG_end {Q : Option Value → Shared → Prop} (hh : A.handled = none) (D : ZipApart z TI TO i1 i2 l1 l2) (W1 : Wkr prog w i1 l1 P1 xs) (W2 : Wkr prog w i2 l2 P2 ys) (hz : IsZip s.heap z TI TO .none) (hTI : IsPair s.heap TI (.ref i1) (.ref i2)) (hTO : IsPair s.heap TO a b)
    (h1 : P1 s.heap k1) (h2 : P2 s.heap k2) (hend : xs[k1]? = none ∨ ys[k2]? = none)
    (hQ : ∀ h', (∀ c o, c ≠ z → c ≠ TO → c ≠ i1 → c ≠ i2 → s.heap.get? c = some o → h'.get? c = some o) → Q none { s with heap := h' }) : wpAny (model prog w) A (pyNext (.ref z)) Q E s := by
  have hT : s.TypeIs (.ref z) "zip" := ⟨_, hz, rfl⟩
  unfold pyNext
  refine wpAny_bind (wpAny_attempt (wpAny_callSpecial?_slot (name := Str.ofString "__next__") hT F.slot_zip_next
    (wpAny_call_entry F.slot_zip_next hT F.entry_zip_next (zipG_end hh D W1 W2 hz hTI hTO h1 h2 hend fun h' e hk he => ?_) (F.args_zip_next_1 _))))
  obtain ⟨o, ho, hc⟩ := he
  refine wpAny_bind (wpAny_isInstance (T := "StopIteration") (b := true) ⟨o, ho, hc⟩ isSubtype_stop ?_)
  exact wpAny_pure (hQ _ hk)
end
/-! ### a tuple and a list -/
abbrev zmH1 (h : Heap) (l1 : Addr) : Heap := h.push { cls := .type "tuple_iterator", data := .fields #[.ref l1, .int 0 0] }
abbrev zmH2 (h : Heap) (l1 l2 : Addr) : Heap := (zmH1 h l1).push { cls := .type "list_iterator", data := .fields #[.ref l2, .int 0 0] }
abbrev zmH3 (h : Heap) (l1 l2 : Addr) : Heap := (zmH2 h l1 l2).push { cls := .type "tuple", data := .seq #[.ref h.objs.size, .ref (zmH1 h l1).objs.size] }
abbrev zmH4 (h : Heap) (l1 l2 : Addr) : Heap := (zmH3 h l1 l2).push { cls := .type "tuple", data := .seq #[.none, .none] }
abbrev zmH5 (h : Heap) (l1 l2 : Addr) : Heap := (zmH4 h l1 l2).push { cls := .type "zip", data := .fields #[.none, .bool false, .bool false, .ref (zmH2 h l1 l2).objs.size, .ref (zmH3 h l1 l2).objs.size] }
theorem meets_zipM (l1 l2 : Addr) (xs ys : Array Value) :
    Meets (Builtin.«zip.__new__» ⟨[.type "zip", .ref l1, .ref l2], []⟩) (fun _ R s => s.heap.IsTuple l1 xs ∧ s.heap.IsList l2 ys ∧ R (.ok (.ret (.ref (zmH4 s.heap l1 l2).objs.size))) { s with heap := zmH5 s.heap l1 l2 }) :=
  .of_wp fun prog w A R s h => by
    obtain ⟨hp, g, d, tk, os⟩ := s; obtain ⟨hl1, hl2, h⟩ := h
    have hsub := sub_zip
    have hL1 : Heap.IsTuple (Shared.heap ⟨hp, g, d, tk, os⟩) l1 xs := hl1
    have hL2 : Heap.IsList (Shared.heap ⟨hp.push { cls := .type "tuple_iterator", data := .fields #[.ref l1, .int 0 0] }, g, d, tk, os⟩) l2 ys := Heap.IsList.push hl2 _
    wp_walk using wpAny_pyIter_tuple hL1, wpAny_pyIter_list hL2
    exact ⟨_, rfl, h⟩
section
variable {prog : Program} {w : World} {A : Around} {E : Value → Shared → Prop} {s : Shared}
theorem call_zipM {l1 l2 : Addr} {xs ys : Array Value} {Q : Value → Shared → Prop} (hl1 : s.heap.IsTuple l1 xs) (hl2 : s.heap.IsList l2 ys)
    (h : ∀ h', IsZip h' (s.heap.objs.size + 4) (s.heap.objs.size + 2) (s.heap.objs.size + 3) .none → IsPair h' (s.heap.objs.size + 2) (.ref s.heap.objs.size) (.ref (s.heap.objs.size + 1)) →
      IsPair h' (s.heap.objs.size + 3) .none .none → h'.IsTupleIter s.heap.objs.size l1 0 → h'.IsListIter (s.heap.objs.size + 1) l2 0 → h'.objs.size = s.heap.objs.size + 5 →
      (∀ c o, s.heap.get? c = some o → h'.get? c = some o) → Q (.ref (s.heap.objs.size + 4)) { s with heap := h' }) : wpAny (model prog w) A (call (.type "zip") [.ref l1, .ref l2]) Q E s := by
  refine callType_new F.called_zip (by decide) (F.typeCall_zip_2 _ _) (F.newCall_zip_2 _ _) (fun obj => F.args_object_init_3 obj _ _) F.entry_zip_new (meets_zipM l1 l2 xs ys) ⟨hl1, hl2, ?_⟩
  have z1 : (zmH1 s.heap l1).objs.size = s.heap.objs.size + 1 := Heap.size_push ..
  have z2 : (zmH2 s.heap l1 l2).objs.size = s.heap.objs.size + 2 := by rw [Heap.size_push, z1]
  have z3 : (zmH3 s.heap l1 l2).objs.size = s.heap.objs.size + 3 := by rw [Heap.size_push, z2]
  have z4 : (zmH4 s.heap l1 l2).objs.size = s.heap.objs.size + 4 := by rw [Heap.size_push, z3]
  have z5 : (zmH5 s.heap l1 l2).objs.size = s.heap.objs.size + 5 := by rw [Heap.size_push, z4]
  have g5 : (zmH5 s.heap l1 l2).get? (zmH4 s.heap l1 l2).objs.size = some _ := Heap.get?_push_size _ rfl
  have g4 : (zmH5 s.heap l1 l2).get? (zmH3 s.heap l1 l2).objs.size = some _ := Heap.get?_push_of_some _ (Heap.get?_push_size _ rfl)
  have g3 : (zmH5 s.heap l1 l2).get? (zmH2 s.heap l1 l2).objs.size = some _ := Heap.get?_push_of_some _ (Heap.get?_push_of_some _ (Heap.get?_push_size _ rfl))
  have g2 : (zmH5 s.heap l1 l2).get? (zmH1 s.heap l1).objs.size = some _ := Heap.get?_push_of_some _ (Heap.get?_push_of_some _ (Heap.get?_push_of_some _ (Heap.get?_push_size _ rfl)))
  have g1 : (zmH5 s.heap l1 l2).get? s.heap.objs.size = some _ := Heap.get?_push_of_some _ (Heap.get?_push_of_some _ (Heap.get?_push_of_some _ (Heap.get?_push_of_some _ (Heap.get?_push_size _ rfl))))
  show _ ∧ _
  rw [z2, z3, z4] at g5
  rw [z1, z2] at g3
  rw [z3] at g4
  rw [z1] at g2
  rw [z4]
  exact ⟨⟨_, g5, rfl⟩, h _ g5 g3 g4 ⟨_, g1, rfl, rfl⟩ ⟨_, g2, rfl, rfl⟩ z5 fun c o x =>
    Heap.get?_push_of_some _ (Heap.get?_push_of_some _ (Heap.get?_push_of_some _ (Heap.get?_push_of_some _ (Heap.get?_push_of_some _ x))))⟩
end
def ItzM (K : PySem.W.Frag) (a b : Addr) : It :=
  ⟨fun i H => ∃ (xs ys : List V) (x y : V), SqT K H a xs ∧ SqL K H b ys ∧ xs[i]? = some x ∧ ys[i]? = some y,
    fun i H v H' => ∃ T x y, v = .ref T ∧ H T = none ∧ H' = upd H T (.tup [x, y]) ∧ (∀ xs, SqT K H a xs → xs[i]? = some x) ∧ ∀ ys, SqL K H b ys → ys[i]? = some y,
    fun i H => ∃ xs ys : List V, SqT K H a xs ∧ SqL K H b ys ∧ (xs.length ≤ i ∨ ys.length ≤ i)⟩
theorem turn_zipM {P : Program} {w : World} {K : PySem.W.Frag} {elts : List Expr} {kk : Nat} {tpos : Pos} {a b z TI TO i1 i2 : Addr} (D : ZipApart z TI TO i1 i2 a b) :
    Turn P w K (.Tuple elts kk tpos) (ItzM K a b) [z, TI, TO, i1, i2] z (fun i h => IsZip h z TI TO .none ∧ IsPair h TI (.ref i1) (.ref i2) ∧ (∃ x y, IsPair h TO x y) ∧ h.IsTupleIter i1 a i ∧ h.IsListIter i2 b i) where
  mem := by simp
  obj := fun i h st c hc => by
    obtain ⟨hz, hTI, ⟨x, y, hTO⟩, ⟨o1, e1, _, d1⟩, ⟨o2, e2, _, d2⟩⟩ := st
    have e' : c = z ∨ c = TI ∨ c = TO ∨ c = i1 ∨ c = i2 := by simpa using hc
    rcases e' with q | q | q | q | q
    · rw [q]; exact ⟨_, hz, fun v q => nomatch q⟩
    · rw [q]; exact ⟨_, hTI, fun v q => nomatch q⟩
    · rw [q]; exact ⟨_, hTO, fun v q => nomatch q⟩
    · rw [q]; exact ⟨o1, e1, fun v q => by rw [d1] at q; cases q⟩
    · rw [q]; exact ⟨o2, e2, fun v q => by rw [d2] at q; cases q⟩
  keep := fun i h h' st k => by
    obtain ⟨hz, hTI, ⟨x, y, hTO⟩, h1, h2⟩ := st
    exact ⟨k z (by simp) _ hz, k TI (by simp) _ hTI, ⟨x, y, k TO (by simp) _ hTO⟩, h1.at fun o q => k i1 (by simp) o q, h2.at fun o q => k i2 (by simp) o q⟩
  item := by
    intro X hP hw hK hc i pins s σ H E I hf st hg
    subst hP hw hK
    obtain ⟨hz, hTI, ⟨x0, y0, hTO⟩, h1, h2⟩ := st
    obtain ⟨xs, ys, x, y, hqx, hqy, hx, hy⟩ := hg
    obtain ⟨its, rv, p, _⟩ := I.tuple hqx
    obtain ⟨its2, rv2, p2, _⟩ := I.list hqy
    obtain ⟨u, hu, ru⟩ := rv.get hx
    obtain ⟨u2, hu2, ru2⟩ := rv2.get hy
    have hzl : z < s.heap.objs.size := Heap.lt_size hz
    refine nextG_item D (wkr_tup (its := its.toArray) D.l1i1) (wkr_lst (its := its2.toArray) D.l2i2) hz hTI hTO ⟨h1, p⟩ ⟨h2, p2.isList⟩ (x := u) (y := u2) (by simpa using hu) (by simpa using hu2) fun h' z' TO' h1' h2' hT hsz hk => ?_
    have h1' := h1'.1
    have h2' := h2'.1
    refine ⟨_, rfl, wpAny_letOwnedTupleGo_zip (s := { s with heap := h' }) z' fun h'' z'' sb => ?_⟩
    have hT2 : h''.get? s.heap.objs.size = some { cls := .type "tuple", data := .seq #[u, u2] } := (sb.2 _ (Nat.ne_of_gt hzl)).trans hT
    have new : ObjOk X.prog X.w (upd H s.heap.objs.size (.tup [x, y])) h'' s.heap.objs.size (.tup [x, y]) :=
      ⟨by show 2 ≤ sizeLine; decide, [u, u2], .cons ru (.cons ru2 .nil), ⟨_, hT2, rfl, _, rfl⟩⟩
    have I1 : Inv X pins σ (upd H s.heap.objs.size (.tup [x, y])) { s with heap := h'' } :=
      I.turnedNew (t' := s.toks) (ch := [z, TI, TO, i1, i2]) (fun c o hb q => (sb.2 c (fun q' => hb (by simp [q']))).trans (hk c o (fun q' => hb (by simp [q'])) (fun q' => hb (by simp [q'])) (fun q' => hb (by simp [q'])) (fun q' => hb (by simp [q'])) q)) hf (Nat.le_refl _) new
    refine ⟨.ref s.heap.objs.size, _, I1, rfl, ⟨_, x, y, rfl, I.hok.fresh (Nat.le_refl _), rfl, fun l hl => by rw [I.tuple_inj hl hqx]; exact hx, fun l hl => by rw [I.list_inj hl hqy]; exact hy⟩, ⟨z'', ?_, ⟨u, u2, ?_⟩, ?_, ?_⟩, fun c hcm => ?_⟩
    · exact (sb.2 _ D.TIz).trans (hk _ _ D.TIz D.TITO D.TIi1 D.TIi2 hTI)
    · exact (sb.2 _ D.TOz).trans TO'
    · exact h1'.at fun o q => (sb.2 _ D.i1z).trans q
    · exact h2'.at fun o q => (sb.2 _ D.i2z).trans q
    · have hlt : c < s.heap.objs.size := by
        have e' : c = z ∨ c = TI ∨ c = TO ∨ c = i1 ∨ c = i2 := by simpa using hcm
        rcases e' with q | q | q | q | q
        · rw [q]; exact hzl
        · rw [q]; exact Heap.lt_size hTI
        · rw [q]; exact Heap.lt_size hTO
        · rw [q]; obtain ⟨_, e1, _⟩ := h1; exact Heap.lt_size e1
        · rw [q]; obtain ⟨_, e2, _⟩ := h2; exact Heap.lt_size e2
      rw [upd_ne (Nat.ne_of_lt hlt)]
      exact (hf c hcm).1
  done := by
    intro X hP hw hK hc i pins s σ H E I hf st hg
    subst hP hw hK
    obtain ⟨hz, hTI, ⟨x0, y0, hTO⟩, h1, h2⟩ := st
    obtain ⟨xs, ys, hqx, hqy, hend⟩ := hg
    obtain ⟨its, rv, p, _⟩ := I.tuple hqx
    obtain ⟨its2, rv2, p2, _⟩ := I.list hqy
    have l1 := rv.length
    have l2 := rv2.length
    have he : its.toArray[i]? = none ∨ its2.toArray[i]? = none := by
      rcases hend with q | q
      · exact .inl (by simp; omega)
      · exact .inr (by simp; omega)
    exact nextG_end (I.ok.hd hc) D (wkr_tup D.l1i1) (wkr_lst D.l2i2) hz hTI hTO ⟨h1, p⟩ ⟨h2, p2.isList⟩ he fun h' hk => ⟨rfl, I.turnedL (t' := s.toks) (ch := [z, TI, TO, i1, i2]) (fun c o hb q =>
      hk c o (fun q' => hb (by simp [q'])) (fun q' => hb (by simp [q'])) (fun q' => hb (by simp [q'])) (fun q' => hb (by simp [q'])) q) hf⟩
  self := fun A i s Q E st h => wpAny_pyIter_zip st.1 h
def iZipM (K : PySem.W.Frag) (ta : TA) : TI := fun σ H R => ta σ H fun vs H1 => ∃ a b xs ys, vs = [.ref a, .ref b] ∧ SqT K H1 a xs ∧ SqL K H1 b ys ∧ R (ItzM K a b) H1
theorem pi_zipM {X : Cx} {e e2 : Expr} {ta : TA} {p pos tpos : Pos} {elts : List Expr} {kk : Nat} (hg : L2.Gl X "zip") (hm : X.mg "zip" = none) (ha : PA X [e, e2] ta)
    (hs : starEach [e, e2] X.env = (false, eval e X.env) :: starEach [e2] X.env) (hpl : (backTo pos (starEach [e2] X.env)).any (·.1) = false) : PI X (.Tuple elts kk tpos) (.Call (.Name "zip" p) [e, e2] [] pos) (iZipM X.K ta) := by
  refine ⟨fun pins s σ H R I h => ?_⟩
  refine Call_ (ld_blt I hg hm PyProof.Rows.boot_zip (PyProof.Rows.callWith_type1 (thn (ha.run pos pins s σ H _ I h) fun us s1 ⟨vs, H1, I1, r1, q1⟩ => ?_) hs hpl))
  obtain ⟨a, b, xs, ys, ex, hqx, hqy, q⟩ := q1
  subst ex
  obtain ⟨u0, u1, rfl, ra, rb⟩ := r1.two
  cases (show u0 = Value.ref a from ra)
  cases (show u1 = Value.ref b from rb)
  have fresh5 : ∀ c, c ∈ [s1.heap.objs.size + 4, s1.heap.objs.size + 2, s1.heap.objs.size + 3, s1.heap.objs.size, s1.heap.objs.size + 1] → FpOk X pins H1 c := fun c hcm => by
    have e' : c = s1.heap.objs.size + 4 ∨ c = s1.heap.objs.size + 2 ∨ c = s1.heap.objs.size + 3 ∨ c = s1.heap.objs.size ∨ c = s1.heap.objs.size + 1 := by simpa using hcm
    have hle : s1.heap.objs.size ≤ c := by
      rcases e' with z | z | z | z | z
      · rw [z]; exact Nat.le_add_right _ _
      · rw [z]; exact Nat.le_add_right _ _
      · rw [z]; exact Nat.le_add_right _ _
      · rw [z]; exact Nat.le_refl _
      · rw [z]; exact Nat.le_add_right _ _
    exact I1.fpOk hle (I1.hok.fresh hle)
  obtain ⟨its, rv, p1, _⟩ := I1.tuple hqx
  obtain ⟨its2, rv2, p2, _⟩ := I1.list hqy
  obtain ⟨o1, ho1, _⟩ := id p1
  refine call_zipM (show s1.heap.IsTuple a its.toArray from p1) p2.isList fun h' hz hTI hTO h1 h2 hsz hk => wpAny_pyIter_zip hz ?_
  have I2 : Inv X pins σ H1 { s1 with heap := h' } := I1.kept (t' := s1.toks) hk
  exact ⟨s1.heap.objs.size + 4, [s1.heap.objs.size + 4, s1.heap.objs.size + 2, s1.heap.objs.size + 3, s1.heap.objs.size, s1.heap.objs.size + 1], _, _, H1, rfl, I2, turn_zipM (PySem.W.ktu_apart s1.heap.objs.size a b (Heap.lt_size ho1) p2.lt), ⟨hz, hTI, ⟨_, _, hTO⟩, h1, h2⟩, fresh5, q⟩
end Zw
set_option Elab.async false
set_option linter.all false
set_option maxRecDepth 100000
/-! Zw6: what is walked; list comprehensions. -/
namespace Zw
open PySem PySem.Spec PyProof.Rows L2
section
variable {X : Cx} {K : PySem.W.Frag} {xc : Nat → Option XCls} {W : WX} {F : Hp} {μ : List Addr} {S : Store} {H : Hp} {σ : L2.St} {ρ : Env} {G : Gx}
/-! ### walks -/
/-- a turn leaves all as it is, or a new tuple -/
inductive Nw (F H F' H' : Hp) : Prop
  | same : F' = F → H' = H → Nw F H F' H'
  | tup (T : Addr) (vs : List V) : H T = none → F' = upd F T (.tup vs) → H' = upd H T (.tup vs) → Nw F H F' H'
theorem Nw.rel {F' H' : Hp} (n : Nw F H F' H') (r : Rel K F μ S H) : Rel K F' μ S H' := by
  cases n with
  | same e1 e2 => subst e1 e2; exact r
  | tup T vs h e1 e2 => subst e1 e2; exact r.new h nt_tup
theorem Nw.ext {F' H' : Hp} (n : Nw F H F' H') (s : Same F H) : Ext μ F H F' H' := by
  cases n with
  | same e1 e2 => subst e1 e2; exact Ext.refl _ _ _
  | tup T vs h e1 e2 => subst e1 e2; exact Ext.new s h nt_tup
theorem Nw.keep {F' H' : Hp} (n : Nw F H F' H') {a : Addr} {o : HO} (e : H a = some o) : H' a = some o := by
  cases n with
  | same e1 e2 => subst e1 e2; exact e
  | tup T vs h e1 e2 => subst e1 e2; rw [upd_ne (fun z => by rw [z, h] at e; cases e)]; exact e
theorem Nw.non {F' H' : Hp} (n : Nw F H F' H') {a : Addr} {o : HO} (e : H a = some o) (f : F a = none) : F' a = none := by
  cases n with
  | same e1 e2 => subst e1 e2; exact f
  | tup T vs h e1 e2 => subst e1 e2; rw [upd_ne (fun z => by rw [z, h] at e; cases e)]; exact f
/-- J walks what xs says, in every state that P holds of -/
structure Wk (K : PySem.W.Frag) (P : Hp → Hp → Prop) (J : It) (xs : List D) : Prop where
  go : ∀ (i : Nat) (F H : Hp), P F H → i < xs.length → J.go i H
  stop : ∀ (F H : Hp), P F H → J.stop xs.length H
  yld : ∀ (i : Nat) (F H : Hp) (x : V) (H' : Hp), P F H → J.yld i H x H' → i < xs.length → ∃ F', Nw F H F' H' ∧ ∃ d, xs[i]? = some d ∧ Rp K F' x d
/-- two sorts of what stays: the state only grew; the frozen part only grew -/
def WkAny (K : PySem.W.Frag) (μ : List Addr) (F1 H1 : Hp) (J : It) (bs : List B) (xs : List D) : Prop :=
  Wk K (fun F H => Ext μ F1 H1 F H ∧ Same F H) J xs ∧ ((frzs bs).isSome = true → Wk K (fun F H => Same F1 F ∧ Same F H) J xs)
def seenW (kind : Nat) (bs : List B) : Option (List B × List D) := ((seens bs).bind (walk kind)).map fun xs => (bs, xs)
def wkM (G : Gx) (kind : Nat) (its : List CE) (ρ : Env) (s : Store) : R (List B × List D) := (evl G its ρ s).bind fun bs s => .of (seenW kind bs) s
def okI (K : PySem.W.Frag) (xc : Nat → Option XCls) (μ : List Addr) (W : WX) (F H : Hp) (σ : L2.St) (r : R (List B × List D)) (R' : It → Hp → Prop) : Prop := match r with
  | .ok p S' => ∀ F' H' J, Ext μ F H F' H' → Rel K F' μ S' H' → WkAny K μ F' H' J p.1 p.2 → R' J H'
  | .ex c p S' => ∀ F' H' cls d, Ext μ F H F' H' → Rel K F' μ S' H' → XR K xc F' H' c p cls d → W cls d σ H'
  | .bad => False
def tMI (K : PySem.W.Frag) (xc : Nat → Option XCls) (W : WX) (m : Env → Store → R (List B × List D)) : TI := fun σ H R' =>
  ∃ F μ S ρ, Rel K F μ S H ∧ ER K F μ H ρ σ ∧ okI K xc μ W F H σ (m ρ S) R'
theorem PI.weak {X : Cx} {tg e : Expr} {t t' : TI} (h : PI X tg e t) (w : ∀ σ H Q, t' σ H Q → t σ H Q) : PI X tg e t' := ⟨fun pins s σ H Q I q => h.run pins s σ H Q I (w σ H Q q)⟩
theorem PI.alt {X : Cx} {tg e : Expr} {t u : TI} (h : PI X tg e t) (k : PI X tg e u) : PI X tg e (fun σ H Q => t σ H Q ∨ u σ H Q) :=
  ⟨fun pins s σ H Q I q => q.elim (h.run pins s σ H Q I) (k.run pins s σ H Q I)⟩
/-- a list that stays -/
theorem wk_list {a : Addr} {vs : List V} {xs : List D} {P : Hp → Hp → Prop} (h : ∀ F H, P F H → SqL K H a vs ∧ RpL K F vs xs) : Wk K P (Itl K a) xs where
  go := fun i F H p hi => by
    obtain ⟨q, r⟩ := h F H p
    have hl := r.length
    exact ⟨vs, vs[i]'(by omega), q, List.getElem?_eq_getElem _⟩
  stop := fun F H p => by
    obtain ⟨q, r⟩ := h F H p
    exact ⟨vs, q, by rw [r.length]; exact Nat.le_refl _⟩
  yld := fun i F H x H' p y hi => by
    obtain ⟨q, r⟩ := h F H p
    obtain ⟨e, y⟩ := y
    obtain ⟨v, h1, h2⟩ := r.get (List.getElem?_eq_getElem hi)
    have := y vs q
    rw [h1] at this
    cases this
    exact ⟨F, .same rfl e, _, List.getElem?_eq_getElem hi, h2⟩
theorem wk_tup {a : Addr} {vs : List V} {xs : List D} {P : Hp → Hp → Prop} (h : ∀ F H, P F H → SqT K H a vs ∧ RpL K F vs xs) : Wk K P (Itt K a) xs where
  go := fun i F H p hi => by
    obtain ⟨q, r⟩ := h F H p
    have hl := r.length
    exact ⟨vs, vs[i]'(by omega), q, List.getElem?_eq_getElem _⟩
  stop := fun F H p => by
    obtain ⟨q, r⟩ := h F H p
    exact ⟨vs, q, by rw [r.length]; exact Nat.le_refl _⟩
  yld := fun i F H x H' p y hi => by
    obtain ⟨q, r⟩ := h F H p
    obtain ⟨e, y⟩ := y
    obtain ⟨v, h1, h2⟩ := r.get (List.getElem?_eq_getElem hi)
    have := y vs q
    rw [h1] at this
    cases this
    exact ⟨F, .same rfl e, _, List.getElem?_eq_getElem hi, h2⟩
theorem wk_range {lo hi : Int} {xs : List D} {P : Hp → Hp → Prop} (h : xs = (List.range (hi - lo).toNat).map fun (k : Nat) => D.int (lo + (k : Int))) : Wk K P (Itr lo (hi - lo).toNat) xs where
  go := fun i F H p hi => by
    subst h
    simp at hi
    show i < _
    omega
  stop := fun F H p => by
    subst h
    show _ ≤ _
    simp
  yld := fun i F H x H' p y hi => by
    obtain ⟨e, y⟩ := y
    subst h y
    refine ⟨F, .same rfl e, .int (lo + i), ?_, .int _⟩
    rw [List.length_map, List.length_range] at hi
    rw [List.getElem?_map, List.getElem?_range hi]
    rfl
theorem sq_own {a : Addr} {vs : List V} {F1 H1 F H : Hp} (x : Ext μ F1 H1 F H) (m : a ∉ μ) (h : H1 a = some (.lst vs)) : H a = some (.lst vs) := x.keep a _ h (fun _ z => by cases z) m
theorem rel_in {F1 H1 : Hp} {S : Store} (r : Rel K F1 μ S H1) {a : Addr} {o : HO} (h : F1 a = some o) : a ∉ μ := fun z => by rw [r.dis a z] at h; cases h
theorem wkAny_lst {F1 H1 : Hp} {S1 : Store} {v : V} {b : B} {xs : List D} (nb : ∀ d, b ≠ .own d) (r : Rel K F1 μ S1 H1) (bv : BRp K F1 μ H1 v b) (e : b.seen = some (.lst xs)) : ∃ a, v = .ref a ∧ (∃ ys, SqL K H1 a ys) ∧ WkAny K μ F1 H1 (Itl K a) [b] xs := by
  cases b with
  | t d =>
    cases e
    cases bv with
    | @lst a vs _ h1 h2 =>
      exact ⟨a, rfl, ⟨vs, SqL.of (r.sub _ _ h1)⟩, wk_list fun F H p => ⟨SqL.of (p.2 _ _ (p.1.fs _ _ h1)), h2.mono p.1.fs⟩, fun _ => wk_list fun F H p => ⟨SqL.of (p.2 _ _ (p.1 _ _ h1)), h2.mono p.1⟩⟩
  | own d =>
    exact absurd rfl (nb d)
  | bor d =>
    cases e
    obtain ⟨a, vs, ds, e1, e2, h1, h2, n, m⟩ := bv
    cases e2
    exact ⟨a, e1, ⟨vs, SqL.of h1⟩, wk_list fun F H p => ⟨SqL.of (sq_own p.1 m h1), h2.mono p.1.fs⟩, fun z => by cases z⟩
  | sc d =>
    cases e
    obtain ⟨a, vs, ds, e1, e2, h1, h2⟩ := bv
    cases e2
    exact ⟨a, e1, ⟨vs, h1.sq⟩, wk_list fun F H p => ⟨(h1.to fun o e m => ⟨p.1.keep a _ e (fun _ z => by cases z) m, m⟩).sq, h2.mono p.1.fs⟩, fun z => by cases z⟩
  | r k => cases e
theorem wkAny_tup {F1 H1 : Hp} {S1 : Store} {v : V} {b : B} {xs : List D} (r : Rel K F1 μ S1 H1) (bv : BRp K F1 μ H1 v b) (e : b.seen = some (.tup xs)) : ∃ a, v = .ref a ∧ (∃ ys, SqT K H1 a ys) ∧ WkAny K μ F1 H1 (Itt K a) [b] xs := by
  cases b with
  | t d =>
    cases e
    cases bv with
    | @tup a vs _ h1 h2 =>
      exact ⟨a, rfl, ⟨vs, sqT_sub r.sub h1⟩, wk_tup fun F H p => ⟨sqT_sub p.2 (sqT_sub p.1.fs h1), h2.mono p.1.fs⟩, fun _ => wk_tup fun F H p => ⟨sqT_sub p.2 (sqT_sub p.1 h1), h2.mono p.1⟩⟩
  | own d => cases e; obtain ⟨a, vs, ds, e1, e2, _⟩ := bv; cases e2
  | bor d => cases e; obtain ⟨a, vs, ds, e1, e2, _⟩ := bv; cases e2
  | sc d => cases e; obtain ⟨a, vs, ds, e1, e2, _⟩ := bv; cases e2
  | r k => cases e
theorem still_own (b : B) : ∀ d, b.still ≠ .own d := by intro d h; cases b <;> cases h
/-- a range that lies there -/
def iRngV (tl : TE) : TI := fun σ H R => tl σ H fun x H1 => ∃ a lo hi, x = .ref a ∧ H1 a = some (.rng lo hi) ∧ (-(2 ^ 62) ≤ lo ∧ lo < 2 ^ 62 ∧ -(2 ^ 62) ≤ hi ∧ hi < 2 ^ 62) ∧ R (Itr lo (hi - lo).toNat) H1
theorem pi_rngv {tg l : Expr} {tl : TE} (hl : PE X l tl) : PI X tg l (iRngV tl) := by
  refine ⟨fun pins s σ H R I h => ?_⟩
  refine thn (hl.run pins s σ H _ I h) fun v s1 ⟨x, H1, I1, r1, q1⟩ => ?_
  obtain ⟨a, lo, hi, e, hq, ⟨z1, z2, z3, z4⟩, q⟩ := q1
  subst e
  cases r1
  obtain ⟨t, u, v, p⟩ := I1.hok a _ hq
  refine wpAny_pyIter_range p (small_one z1 z2 z3 z4) ?_
  refine ⟨s1.heap.objs.size, [s1.heap.objs.size], _, _, H1, rfl, I1.kept (t' := s1.toks) fun b o e => Heap.get?_push_of_some _ e, turn_range _ lo (hi - lo).toNat, ?_, fun b hb => ?_, q⟩
  · have e1 : lo + ((0 : Nat) : Int) * 1 = lo := by simp
    have e2 : (((hi - lo).toNat : Nat) : Int) - ((0 : Nat) : Int) = Builtin.Range.rangeSize lo hi 1 := by rw [rangeSize_one]; split <;> omega
    show IsRangeIter _ _ (lo + ((0 : Nat) : Int) * 1) ((((hi - lo).toNat : Nat) : Int) - ((0 : Nat) : Int)) 1
    rw [e1, e2]
    exact Heap.get?_push_size _ rfl
  · have e : b = s1.heap.objs.size := by simpa using hb
    subst e
    exact I1.fpOk (Nat.le_refl _) (I1.hok.fresh (Nat.le_refl _))
theorem cr_range1 : CallR X (.type "range") (fun vs H Q => ∃ j, vs = [V.int j] ∧ ∀ p, H p = none → Q (.ref p) (upd H p (.rng 0 j))) := by
  intro pins s σ H vs us Q I r h
  obtain ⟨j, rfl, q⟩ := h
  obtain ⟨u2, rfl, rj⟩ := vals1 r
  obtain ⟨u, rfl⟩ := rj
  refine call_range_1 ⟨.ref s.heap.objs.size, upd H s.heap.objs.size (.rng 0 j), I.laid (fun b o e => Heap.get?_push_of_some _ e) (Nat.le_refl _) ?_, rfl, q _ (I.hok.fresh (Nat.le_refl _))⟩
  exact ⟨_, u, _, Heap.get?_push_size _ rfl⟩
theorem r_rngv {c : CE} {e : Expr} {p pos : Pos} (he : PE X e (tM X.K xc W (ev G c))) (hg : L2.Gl X "range") (hm : X.mg "range" = none) (hs : notStar e = true) : PE X (.Call (.Name "range" p) [e] [] pos) (tM X.K xc W (ev G (.rngv c))) :=
  PE.weak (pe_callTy cr_range1 hg hm (by decide +kernel) (pa_cons he pa_nil (starEach_plain hs)) (he := starEach_plain hs) (hpl := backTo_plain rfl)) fun σ H Q ⟨F, μ, S, ρ, rel, er, h⟩ => by
    rw [show ev G (.rngv c) ρ S = (ev G c ρ S).bind fun b s => match b with
      | .t (.int n) => .ok (.t (.rng 0 n)) s
      | _ => .bad from rfl] at h
    refine ⟨F, μ, S, ρ, rel, er, okE_bind h fun F1 H1 v b S1 e1 r1 b1 f1 h1 => ?_⟩
    split at h1
    · rename_i n
      have n1 : NT (.rng 0 n) := fun _ z => by cases z
      exact ⟨n, by rw [rp_int b1], fun p hp => h1 _ _ _ (Ext.new r1.sub hp n1) (r1.new hp n1) (.rng upd_same) trivial⟩
    · exact h1.elim
theorem i_items {tg e : Expr} {c : CE} (he : PE X e (tM X.K xc W (ev G c))) : PI X tg e (tMI X.K xc W (wkM G 0 [c])) := by
  refine PI.weak (PI.alt (pi_list he) (PI.alt (pi_tup he) (pi_rngv he))) fun σ H Q ⟨F, μ, S, ρ, rel, er, h⟩ => ?_
  rw [show wkM G 0 [c] ρ S = ((ev G c ρ S).bind fun x s => .of (seenW 0 [x.still]) s) by
    unfold wkM
    rw [evl]
    cases ev G c ρ S <;> rfl] at h
  cases q : ev G c ρ S with
  | bad => rw [q] at h; exact h.elim
  | ex c p S1 => rw [q] at h; exact .inl ⟨F, μ, S, ρ, rel, er, by rw [q]; exact h⟩
  | ok b S1 =>
    rw [q] at h
    have h : okI X.K xc μ W F H σ (.of (seenW 0 [b.still]) S1) Q := h
    cases q2 : b.still.seen with
    | none => simp [seenW, seens, q2, R.of] at h; exact h.elim
    | some d =>
      cases d with
      | tup xs =>
        have e2 : seenW 0 [b.still] = some ([b.still], xs) := by simp [seenW, seens, q2, walk, itemsD]
        rw [e2] at h
        refine .inr (.inl ⟨F, μ, S, ρ, rel, er, okE_still ?_⟩)
        rw [q]
        intro F1 H1 v e1 r1 bv fr
        obtain ⟨a, ea, hs, wk⟩ := wkAny_tup r1 bv q2
        exact ⟨a, ea, hs, h F1 H1 _ e1 r1 wk⟩
      | rng lo hi =>
        cases q3 : rangeD lo hi with
        | none =>
          have e2 : seenW 0 [b.still] = none := by simp [seenW, seens, q2, walk, q3]
          rw [e2] at h
          exact h.elim
        | some xs =>
          have e2 : seenW 0 [b.still] = some ([b.still], xs) := by simp [seenW, seens, q2, walk, q3]
          rw [e2] at h
          refine .inr (.inr ⟨F, μ, S, ρ, rel, er, okE_still ?_⟩)
          rw [q]
          intro F1 H1 v e1 r1 bv fr
          unfold rangeD at q3
          split at q3
          · rename_i hz
            have q3 := (Option.some.inj q3).symm
            have hb : b.still = .t (.rng lo hi) := by
              cases hh : b.still with
              | t d => rw [hh] at q2; cases q2; rfl
              | own d => rw [hh] at q2 bv; cases q2; obtain ⟨_, _, _, _, z, _⟩ := bv; cases z
              | bor d => rw [hh] at q2 bv; cases q2; obtain ⟨_, _, _, _, z, _⟩ := bv; cases z
              | sc d => rw [hh] at q2 bv; cases q2; obtain ⟨_, _, _, _, z, _⟩ := bv; cases z
              | r k => rw [hh] at q2; cases q2
            have bv2 : Rp X.K F1 v (.rng lo hi) := by rw [hb] at bv; exact bv
            cases bv2 with
            | @rng a _ _ hF => exact ⟨a, lo, hi, rfl, r1.sub _ _ hF, hz, h F1 H1 _ e1 r1 ⟨wk_range q3, fun _ => wk_range q3⟩⟩
          · cases q3
      | lst xs =>
        have e2 : seenW 0 [b.still] = some ([b.still], xs) := by simp [seenW, seens, q2, walk, itemsD]
        rw [e2] at h
        refine .inl ⟨F, μ, S, ρ, rel, er, okE_still ?_⟩
        rw [q]
        intro F1 H1 v e1 r1 bv fr
        obtain ⟨a, ea, hs, wk⟩ := wkAny_lst (still_own b) r1 bv q2
        exact ⟨a, ea, hs, h F1 H1 _ e1 r1 wk⟩
      | _ => simp [seenW, seens, q2, walk, itemsD, R.of] at h; exact h.elim
theorem okL_of {r : R (List B)} {g : List B → Option (List B × List D)} {Q : List V → Hp → Prop} {R' : It → Hp → Prop} (h : okI K xc μ W F H σ (r.bind fun bs s => .of (g bs) s) R')
    (k : ∀ F1 H1 vs bs S1 p, Ext μ F H F1 H1 → Rel K F1 μ S1 H1 → BRs K F1 μ H1 vs bs → g bs = some p → (∀ J, WkAny K μ F1 H1 J p.1 p.2 → R' J H1) → Q vs H1) : okL K xc μ W F H σ r Q := by
  cases r with
  | ok bs S1 =>
    intro F1 H1 vs e1 r1 b1
    have h : okI K xc μ W F H σ (.of (g bs) S1) R' := h
    cases q : g bs with
    | none => rw [q] at h; exact h.elim
    | some p =>
      rw [q] at h
      exact k F1 H1 vs bs S1 p e1 r1 b1 q fun J w => h F1 H1 J e1 r1 w
  | ex c p S1 => exact h
  | bad => exact h
theorem seen_int {b : B} {i : Int} {F1 H1 : Hp} {v : V} (bv : BRp K F1 μ H1 v b) (h : b.seen = some (.int i)) : v = .int i := by
  cases b with
  | t d => cases h; exact rp_int bv
  | own d => cases h; obtain ⟨a, vs, ds, e1, e2, _⟩ := bv; cases e2
  | bor d => cases h; obtain ⟨a, vs, ds, e1, e2, _⟩ := bv; cases e2
  | sc d => cases h; obtain ⟨a, vs, ds, e1, e2, _⟩ := bv; cases e2
  | r k => cases h
theorem range_some {lo hi : Int} {xs : List D} (h : rangeD lo hi = some xs) : (-(2 ^ 62) ≤ lo ∧ lo < 2 ^ 62 ∧ -(2 ^ 62) ≤ hi ∧ hi < 2 ^ 62) ∧ xs = (List.range (hi - lo).toNat).map fun (k : Nat) => D.int (lo + (k : Int)) := by
  unfold rangeD at h
  split at h
  · cases h; exact ⟨by assumption, rfl⟩
  · cases h
theorem seenW1 {bs : List B} {p : List B × List D} (h : seenW 1 bs = some p) : ∃ b n, bs = [b] ∧ b.seen = some (.int n) ∧ rangeD 0 n = some p.2 := by
  unfold seenW at h
  match bs with
  | [] => simp [seens, walk] at h
  | [b] =>
    cases q : b.seen with
    | none => simp [seens, q] at h
    | some d =>
      simp only [seens, q, Option.bind_some, Option.map_some] at h
      cases d with
      | int n =>
        obtain ⟨xs, e1, e2⟩ := Option.map_eq_some_iff.mp h
        exact ⟨b, n, rfl, q, by rw [← e2]; exact e1⟩
      | _ => simp [walk] at h
  | b :: c :: r =>
    cases q : b.seen with
    | none => simp [seens, q] at h
    | some d =>
      cases q2 : c.seen with
      | none => simp [seens, q, q2] at h
      | some d2 =>
        cases q3 : seens r with
        | none => simp [seens, q, q2, q3] at h
        | some d3 => simp [seens, q, q2, q3, walk] at h
theorem seenW2 {bs : List B} {p : List B × List D} (h : seenW 2 bs = some p) : ∃ b c n m, bs = [b, c] ∧ b.seen = some (.int n) ∧ c.seen = some (.int m) ∧ rangeD n m = some p.2 := by
  unfold seenW at h
  match bs with
  | [] => simp [seens, walk] at h
  | [b] =>
    cases q : b.seen with
    | none => simp [seens, q] at h
    | some d => simp [seens, q, walk] at h
  | [b, c] =>
    cases q : b.seen with
    | none => simp [seens, q] at h
    | some d =>
      cases q2 : c.seen with
      | none => simp [seens, q, q2] at h
      | some d2 =>
        simp only [seens, q, q2, Option.bind_some, Option.map_some] at h
        cases d with
        | int n =>
          cases d2 with
          | int m =>
            obtain ⟨xs, e1, e2⟩ := Option.map_eq_some_iff.mp h
            exact ⟨b, c, n, m, rfl, q, q2, by rw [← e2]; exact e1⟩
          | _ => simp [walk] at h
        | _ => simp [walk] at h
  | b :: c :: d :: r =>
    cases q : b.seen with
    | none => simp [seens, q] at h
    | some d1 =>
      cases q2 : c.seen with
      | none => simp [seens, q, q2] at h
      | some d2 =>
        cases q4 : d.seen with
        | none => simp [seens, q, q2, q4] at h
        | some d4 =>
          cases q3 : seens r with
          | none => simp [seens, q, q2, q3, q4] at h
          | some d3 => simp [seens, q, q2, q3, q4, walk] at h
theorem i_range1 {tg a : Expr} {c : CE} {p pos : Pos} (hg : L2.Gl X "range") (hm : X.mg "range" = none) (ha : PA X [a] (tML X.K xc W (evl G [c]))) (hs : notStar a = true) :
    PI X tg (.Call (.Name "range" p) [a] [] pos) (tMI X.K xc W (wkM G 1 [c])) := by
  refine PI.weak (pi_range1 hg hm ha (starEach_plain hs)) fun σ H Q ⟨F, μ, S, ρ, rel, er, h⟩ => ⟨F, μ, S, ρ, rel, er, okL_of (g := seenW 1) h fun F1 H1 vs bs S1 p e1 r1 b1 hp k => ?_⟩
  obtain ⟨b, n, e, hb, hr⟩ := seenW1 hp
  subst e
  obtain ⟨⟨_, _, l1, l2⟩, ex⟩ := range_some hr
  cases b1 with
  | cons bv rr =>
    cases rr
    rw [seen_int bv hb]
    refine ⟨n, rfl, l1, l2, ?_⟩
    have := k (Itr 0 (n - 0).toNat) ⟨wk_range ex, fun _ => wk_range ex⟩
    rw [Int.sub_zero] at this
    exact this
theorem i_range2 {tg a b : Expr} {ca cb : CE} {p pos : Pos} (hg : L2.Gl X "range") (hm : X.mg "range" = none) (ha : PA X [a, b] (tML X.K xc W (evl G [ca, cb]))) (hs : notStar a = true) (hs2 : notStar b = true) :
    PI X tg (.Call (.Name "range" p) [a, b] [] pos) (tMI X.K xc W (wkM G 2 [ca, cb])) := by
  refine PI.weak (pi_range2 hg hm ha (by rw [starEach_plain hs, starEach_plain hs2]; rfl) (by rw [starEach_plain hs2]; rfl)) fun σ H Q ⟨F, μ, S, ρ, rel, er, h⟩ => ⟨F, μ, S, ρ, rel, er, okL_of (g := seenW 2) h fun F1 H1 vs bs S1 p e1 r1 b1 hp k => ?_⟩
  obtain ⟨b, c, n, m, e, hb, hc, hr⟩ := seenW2 hp
  subst e
  obtain ⟨l, ex⟩ := range_some hr
  cases b1 with
  | cons bv rr =>
    cases rr with
    | cons cv rr =>
      cases rr
      rw [seen_int bv hb, seen_int cv hc]
      exact ⟨n, m, rfl, l, k (Itr n (m - n).toNat) ⟨wk_range ex, fun _ => wk_range ex⟩⟩
/-! ### enumerate, zip -/
theorem evl_still : ∀ {cs : List CE} {ρ : Env} {s s' : Store} {bs : List B}, evl G cs ρ s = .ok bs s' → ∀ b ∈ bs, ∀ d, b ≠ .own d
  | [], _, _, _, _, h, b, hb, d => by
    rw [evl] at h
    cases h
    cases hb
  | c :: cs, ρ, s, s', bs, h, b, hb, d => by
    rw [evl] at h
    cases q : ev G c ρ s with
    | bad => rw [q] at h; cases h
    | ex a p s1 => rw [q] at h; cases h
    | ok x s1 =>
      rw [q] at h
      have h : ((evl G cs ρ s1).bind fun xs s => .ok (x.still :: xs) s) = .ok bs s' := h
      cases q2 : evl G cs ρ s1 with
      | bad => rw [q2] at h; cases h
      | ex a p s2 => rw [q2] at h; cases h
      | ok ys s2 =>
        rw [q2] at h
        cases h
        rcases List.mem_cons.mp hb with e | hb
        · rw [e]; exact still_own x d
        · exact evl_still q2 b hb d
theorem evl_len : ∀ {cs : List CE} {ρ : Env} {s s' : Store} {bs : List B}, evl G cs ρ s = .ok bs s' → bs.length = cs.length
  | [], _, _, _, _, h => by
    rw [evl] at h
    cases h
    rfl
  | c :: cs, ρ, s, s', bs, h => by
    rw [evl] at h
    cases q : ev G c ρ s with
    | bad => rw [q] at h; cases h
    | ex a p s1 => rw [q] at h; cases h
    | ok x s1 =>
      rw [q] at h
      have h : ((evl G cs ρ s1).bind fun xs s => .ok (x.still :: xs) s) = .ok bs s' := h
      cases q2 : evl G cs ρ s1 with
      | bad => rw [q2] at h; cases h
      | ex a p s2 => rw [q2] at h; cases h
      | ok ys s2 =>
        rw [q2] at h
        cases h
        rw [List.length_cons, List.length_cons, evl_len q2]
/-- what is known of a list, of a tuple that is walked -/
def StL (K : PySem.W.Frag) (μ : List Addr) (F1 H1 : Hp) (b : B) (xs : List D) (v : V) : Prop := ∃ a vs, v = .ref a ∧ SqL K H1 a vs ∧ (∀ F H, Ext μ F1 H1 F H ∧ Same F H → SqL K H a vs ∧ RpL K F vs xs) ∧ (b.frz.isSome = true → ∀ F H, Same F1 F ∧ Same F H → SqL K H a vs ∧ RpL K F vs xs)
def StT (K : PySem.W.Frag) (μ : List Addr) (F1 H1 : Hp) (b : B) (xs : List D) (v : V) : Prop := ∃ a vs, v = .ref a ∧ SqT K H1 a vs ∧ (∀ F H, Ext μ F1 H1 F H ∧ Same F H → SqT K H a vs ∧ RpL K F vs xs) ∧ (b.frz.isSome = true → ∀ F H, Same F1 F ∧ Same F H → SqT K H a vs ∧ RpL K F vs xs)
theorem stL_of {F1 H1 : Hp} {S1 : Store} {v : V} {b : B} {xs : List D} (nb : ∀ d, b ≠ .own d) (r : Rel K F1 μ S1 H1) (bv : BRp K F1 μ H1 v b) (e : b.seen = some (.lst xs)) : StL K μ F1 H1 b xs v := by
  cases b with
  | t d =>
    cases e
    cases bv with
    | @lst a vs _ h1 h2 => exact ⟨a, vs, rfl, SqL.of (r.sub _ _ h1), fun F H p => ⟨SqL.of (p.2 _ _ (p.1.fs _ _ h1)), h2.mono p.1.fs⟩, fun _ F H p => ⟨SqL.of (p.2 _ _ (p.1 _ _ h1)), h2.mono p.1⟩⟩
  | own d => exact absurd rfl (nb d)
  | bor d =>
    cases e
    obtain ⟨a, vs, ds, e1, e2, h1, h2, n, m⟩ := bv
    cases e2
    exact ⟨a, vs, e1, SqL.of h1, fun F H p => ⟨SqL.of (sq_own p.1 m h1), h2.mono p.1.fs⟩, fun z => by cases z⟩
  | sc d =>
    cases e
    obtain ⟨a, vs, ds, e1, e2, h1, h2⟩ := bv
    cases e2
    exact ⟨a, vs, e1, h1.sq, fun F H p => ⟨(h1.to fun o e m => ⟨p.1.keep a _ e (fun _ z => by cases z) m, m⟩).sq, h2.mono p.1.fs⟩, fun z => by cases z⟩
  | r k => cases e
theorem stT_of {F1 H1 : Hp} {S1 : Store} {v : V} {b : B} {xs : List D} (r : Rel K F1 μ S1 H1) (bv : BRp K F1 μ H1 v b) (e : b.seen = some (.tup xs)) : StT K μ F1 H1 b xs v := by
  cases b with
  | t d =>
    cases e
    cases bv with
    | @tup a vs _ h1 h2 => exact ⟨a, vs, rfl, sqT_sub r.sub h1, fun F H p => ⟨sqT_sub p.2 (sqT_sub p.1.fs h1), h2.mono p.1.fs⟩, fun _ F H p => ⟨sqT_sub p.2 (sqT_sub p.1 h1), h2.mono p.1⟩⟩
  | own d => cases e; obtain ⟨a, vs, ds, e1, e2, _⟩ := bv; cases e2
  | bor d => cases e; obtain ⟨a, vs, ds, e1, e2, _⟩ := bv; cases e2
  | sc d => cases e; obtain ⟨a, vs, ds, e1, e2, _⟩ := bv; cases e2
  | r k => cases e
theorem enumD_len (xs : List D) : (enumD xs).length = xs.length := by simp [enumD]
theorem enumD_get {xs : List D} {i : Nat} (h : i < xs.length) : (enumD xs)[i]? = some (.tup [.int (i : Nat), xs[i]]) := by simp [enumD, h]
theorem zipD_len (xs ys : List D) : (zipD xs ys).length = min xs.length ys.length := by simp [zipD]
theorem zipD_get {xs ys : List D} {i : Nat} (h : i < xs.length) (h2 : i < ys.length) : (zipD xs ys)[i]? = some (.tup [xs[i], ys[i]]) := by
  have e : (xs.zip ys)[i]? = some (xs[i], ys[i]) := List.getElem?_zip_eq_some.mpr ⟨List.getElem?_eq_getElem h, List.getElem?_eq_getElem h2⟩
  unfold zipD
  rw [List.getElem?_map, e]
  rfl
theorem upd_sub {F H : Hp} {T : Addr} {o : HO} (s : Same F H) (h : H T = none) : Same F (upd F T o) := fun a u e => by
  rw [upd_ne (fun z => by rw [z] at e; rw [s _ _ e] at h; cases h)]
  exact e
theorem wk_en {Sq : Hp → List V → Prop} {J : It} {vs : List V} {xs : List D} {P : Hp → Hp → Prop} (hs : ∀ F H, P F H → Same F H) (h : ∀ F H, P F H → Sq H vs ∧ RpL K F vs xs)
    (j1 : J.go = fun i H => ∃ (ys : List V) (x : V), Sq H ys ∧ ys[i]? = some x) (j2 : J.yld = fun i H v H' => ∃ T x, v = .ref T ∧ H T = none ∧ H' = upd H T (.tup [.int (i : Nat), x]) ∧ ∀ ys, Sq H ys → ys[i]? = some x) (j3 : J.stop = fun i H => ∃ ys : List V, Sq H ys ∧ ys.length ≤ i) : Wk K P J (enumD xs) where
  go := fun i F H p hi => by
    obtain ⟨q, r⟩ := h F H p
    have hl := r.length
    rw [enumD_len] at hi
    rw [j1]
    exact ⟨vs, vs[i]'(by omega), q, List.getElem?_eq_getElem _⟩
  stop := fun F H p => by
    obtain ⟨q, r⟩ := h F H p
    rw [j3]
    exact ⟨vs, q, by rw [r.length, enumD_len]; exact Nat.le_refl _⟩
  yld := fun i F H v H' p y hi => by
    obtain ⟨q, r⟩ := h F H p
    rw [enumD_len] at hi
    rw [j2] at y
    obtain ⟨T, x, ev, hT, eH, y⟩ := y
    obtain ⟨w, h1, h2⟩ := r.get (List.getElem?_eq_getElem hi)
    have := y vs q
    rw [h1] at this
    cases this
    refine ⟨upd F T (.tup [.int (i : Nat), x]), .tup T _ hT rfl eH, _, enumD_get hi, ?_⟩
    rw [ev]
    exact .tup (.inl (.inl upd_same)) (.cons (.int _) (.cons (h2.mono (upd_sub (hs F H p) hT)) .nil))
theorem wk_zp {Sq Sr : Hp → List V → Prop} {J : It} {vs ws : List V} {xs ys : List D} {P : Hp → Hp → Prop} (hs : ∀ F H, P F H → Same F H) (h : ∀ F H, P F H → Sq H vs ∧ RpL K F vs xs) (g : ∀ F H, P F H → Sr H ws ∧ RpL K F ws ys)
    (j1 : J.go = fun i H => ∃ (as bs : List V) (x y : V), Sq H as ∧ Sr H bs ∧ as[i]? = some x ∧ bs[i]? = some y) (j2 : J.yld = fun i H v H' => ∃ T x y, v = .ref T ∧ H T = none ∧ H' = upd H T (.tup [x, y]) ∧ (∀ as, Sq H as → as[i]? = some x) ∧ ∀ bs, Sr H bs → bs[i]? = some y)
    (j3 : J.stop = fun i H => ∃ as bs : List V, Sq H as ∧ Sr H bs ∧ (as.length ≤ i ∨ bs.length ≤ i)) : Wk K P J (zipD xs ys) where
  go := fun i F H p hi => by
    obtain ⟨q, r⟩ := h F H p
    obtain ⟨q2, r2⟩ := g F H p
    have hl := r.length
    have hl2 := r2.length
    rw [zipD_len] at hi
    rw [j1]
    exact ⟨vs, ws, vs[i]'(by omega), ws[i]'(by omega), q, q2, List.getElem?_eq_getElem _, List.getElem?_eq_getElem _⟩
  stop := fun F H p => by
    obtain ⟨q, r⟩ := h F H p
    obtain ⟨q2, r2⟩ := g F H p
    rw [j3]
    exact ⟨vs, ws, q, q2, by rw [r.length, r2.length, zipD_len]; omega⟩
  yld := fun i F H v H' p y hi => by
    obtain ⟨q, r⟩ := h F H p
    obtain ⟨q2, r2⟩ := g F H p
    rw [zipD_len] at hi
    rw [j2] at y
    obtain ⟨T, x, z, ev, hT, eH, y1, y2⟩ := y
    have i1 : i < xs.length := by omega
    have i2 : i < ys.length := by omega
    obtain ⟨w, h1, h2⟩ := r.get (List.getElem?_eq_getElem i1)
    obtain ⟨u, h3, h4⟩ := r2.get (List.getElem?_eq_getElem i2)
    have e1 := y1 vs q
    have e2 := y2 ws q2
    rw [h1] at e1
    rw [h3] at e2
    cases e1
    cases e2
    refine ⟨upd F T (.tup [x, z]), .tup T _ hT rfl eH, _, zipD_get i1 i2, ?_⟩
    rw [ev]
    exact .tup (.inl (.inl upd_same)) (.cons (h2.mono (upd_sub (hs F H p) hT)) (.cons (h4.mono (upd_sub (hs F H p) hT)) .nil))
theorem frzs1 {b : B} (h : (frzs [b]).isSome = true) : b.frz.isSome = true := by
  cases q : b.frz with
  | none => simp [frzs, q] at h
  | some d => rfl
theorem frzs2 {b c : B} (h : (frzs [b, c]).isSome = true) : b.frz.isSome = true ∧ c.frz.isSome = true := by
  cases q : b.frz with
  | none => simp [frzs, q] at h
  | some d =>
    cases q2 : c.frz with
    | none => simp [frzs, q, q2] at h
    | some e => exact ⟨rfl, rfl⟩
theorem i_enum {elts : List Expr} {kk : Nat} {e : Expr} {c : CE} {p pos tpos : Pos} (hg : L2.Gl X "enumerate") (hm : X.mg "enumerate" = none) (ha : PA X [e] (tML X.K xc W (evl G [c]))) (hs : notStar e = true) :
    PI X (.Tuple elts kk tpos) (.Call (.Name "enumerate" p) [e] [] pos) (tMI X.K xc W (wkM G 3 [c])) := by
  refine PI.weak (PI.alt (pi_enum hg hm ha (starEach_plain hs)) (pi_enumT hg hm ha (starEach_plain hs))) fun σ H Q ⟨F, μ, S, ρ, rel, er, h⟩ => ?_
  unfold wkM at h
  have stl := fun bs s' => evl_still (G := G) (cs := [c]) (ρ := ρ) (s := S) (s' := s') (bs := bs)
  cases q : evl G [c] ρ S with
  | bad => rw [q] at h; exact h.elim
  | ex a p S1 => rw [q] at h; exact .inl ⟨F, μ, S, ρ, rel, er, by rw [q]; exact h⟩
  | ok bs S1 =>
    rw [q] at h
    have h : okI X.K xc μ W F H σ (.of (seenW 3 bs) S1) Q := h
    have len := evl_len q
    match bs, len, q, h with
    | [b], _, q, h =>
      have nb := stl _ _ q b List.mem_cons_self
      cases q2 : b.seen with
      | none => simp [seenW, seens, q2, R.of] at h; exact h.elim
      | some d =>
        cases d with
        | tup xs =>
          rw [show seenW 3 [b] = some ([b], enumD xs) by simp [seenW, seens, q2, walk, itemsD]] at h
          refine .inr ⟨F, μ, S, ρ, rel, er, ?_⟩
          rw [q]
          intro F1 H1 vs e1 r1 b1
          cases b1 with
          | cons bv rr =>
            cases rr
            obtain ⟨a, ys, ea, sq, w1, w2⟩ := stT_of r1 bv q2
            exact ⟨a, ys, by rw [ea], sq, h F1 H1 _ e1 r1 ⟨wk_en (Sq := fun H => SqT X.K H a) (fun _ _ p => p.2) w1 rfl rfl rfl, fun z => wk_en (Sq := fun H => SqT X.K H a) (fun _ _ p => p.2) (w2 (frzs1 z)) rfl rfl rfl⟩⟩
        | lst xs =>
          rw [show seenW 3 [b] = some ([b], enumD xs) by simp [seenW, seens, q2, walk, itemsD]] at h
          refine .inl ⟨F, μ, S, ρ, rel, er, ?_⟩
          rw [q]
          intro F1 H1 vs e1 r1 b1
          cases b1 with
          | cons bv rr =>
            cases rr
            obtain ⟨a, ys, ea, sq, w1, w2⟩ := stL_of nb r1 bv q2
            exact ⟨a, ys, by rw [ea], sq, h F1 H1 _ e1 r1 ⟨wk_en (Sq := fun H => SqL X.K H a) (fun _ _ p => p.2) w1 rfl rfl rfl, fun z => wk_en (Sq := fun H => SqL X.K H a) (fun _ _ p => p.2) (w2 (frzs1 z)) rfl rfl rfl⟩⟩
        | _ => simp [seenW, seens, q2, walk, itemsD, R.of] at h; exact h.elim
theorem i_zip {elts : List Expr} {kk : Nat} {e e2 : Expr} {c c2 : CE} {p pos tpos : Pos} (hg : L2.Gl X "zip") (hm : X.mg "zip" = none) (ha : PA X [e, e2] (tML X.K xc W (evl G [c, c2]))) (hs : notStar e = true) (hs2 : notStar e2 = true) :
    PI X (.Tuple elts kk tpos) (.Call (.Name "zip" p) [e, e2] [] pos) (tMI X.K xc W (wkM G 4 [c, c2])) := by
  refine PI.weak (PI.alt (RZ.pi_zipA hg hm ha (starEach_plain hs) (by rw [starEach_plain hs2]; rfl)) (pi_zipM hg hm ha (starEach_plain hs) (by rw [starEach_plain hs2]; rfl))) fun σ H Q ⟨F, μ, S, ρ, rel, er, h⟩ => ?_
  unfold wkM at h
  have stl := fun bs s' => evl_still (G := G) (cs := [c, c2]) (ρ := ρ) (s := S) (s' := s') (bs := bs)
  cases q : evl G [c, c2] ρ S with
  | bad => rw [q] at h; exact h.elim
  | ex a p S1 => refine .inl ⟨F, μ, S, ρ, rel, er, ?_⟩; rw [q]; rw [q] at h; exact h
  | ok bs S1 =>
    rw [q] at h
    have h : okI X.K xc μ W F H σ (.of (seenW 4 bs) S1) Q := h
    have len := evl_len q
    match bs, len, q, h with
    | [b, d], _, q, h =>
      have nb := stl _ _ q b List.mem_cons_self
      have nd := stl _ _ q d (by simp)
      cases q2 : b.seen with
      | none => simp [seenW, seens, q2, R.of] at h; exact h.elim
      | some x =>
        cases q3 : d.seen with
        | none => simp [seenW, seens, q2, q3, R.of] at h; exact h.elim
        | some y =>
          cases x with
          | tup xs =>
            cases y with
            | tup ys =>
              refine .inl ⟨F, μ, S, ρ, rel, er, ?_⟩
              rw [q]
              intro F1 H1 vs e1 r1 b1
              match vs, b1 with
              | [v, w], .cons bv (.cons dv .nil) =>
                rw [show seenW 4 [b, d] = some ([b, d], zipD xs ys) by simp [seenW, seens, q2, q3, walk, zipS]] at h
                obtain ⟨a, as, ea, sq, w1, w2⟩ := stT_of r1 bv q2
                obtain ⟨a', as', ea', sq', w1', w2'⟩ := stT_of r1 dv q3
                exact ⟨a, a', as, as', by rw [ea, ea'], .inr ⟨sq, sq', h F1 H1 _ e1 r1 ⟨wk_zp (Sq := fun H => SqT X.K H a) (Sr := fun H => SqT X.K H a') (fun _ _ p => p.2) w1 w1' rfl rfl rfl, fun z => wk_zp (Sq := fun H => SqT X.K H a) (Sr := fun H => SqT X.K H a') (fun _ _ p => p.2) (w2 (frzs2 z).1) (w2' (frzs2 z).2) rfl rfl rfl⟩⟩⟩
            | lst ys =>
              refine .inr ⟨F, μ, S, ρ, rel, er, ?_⟩
              rw [q]
              intro F1 H1 vs e1 r1 b1
              match vs, b1 with
              | [v, w], .cons bv (.cons dv .nil) =>
                rw [show seenW 4 [b, d] = some ([b, d], zipD xs ys) by simp [seenW, seens, q2, q3, walk, zipS]] at h
                obtain ⟨a, as, ea, sq, w1, w2⟩ := stT_of r1 bv q2
                obtain ⟨a', as', ea', sq', w1', w2'⟩ := stL_of nd r1 dv q3
                exact ⟨a, a', as, as', by rw [ea, ea'], sq, sq', h F1 H1 _ e1 r1 ⟨wk_zp (Sq := fun H => SqT X.K H a) (Sr := fun H => SqL X.K H a') (fun _ _ p => p.2) w1 w1' rfl rfl rfl, fun z => wk_zp (Sq := fun H => SqT X.K H a) (Sr := fun H => SqL X.K H a') (fun _ _ p => p.2) (w2 (frzs2 z).1) (w2' (frzs2 z).2) rfl rfl rfl⟩⟩
            | _ => simp [seenW, seens, q2, q3, walk, zipS, R.of] at h; exact h.elim
          | lst xs =>
            cases y with
            | lst ys =>
              refine .inl ⟨F, μ, S, ρ, rel, er, ?_⟩
              rw [q]
              intro F1 H1 vs e1 r1 b1
              match vs, b1 with
              | [v, w], .cons bv (.cons dv .nil) =>
                rw [show seenW 4 [b, d] = some ([b, d], zipD xs ys) by simp [seenW, seens, q2, q3, walk, zipS]] at h
                obtain ⟨a, as, ea, sq, w1, w2⟩ := stL_of nb r1 bv q2
                obtain ⟨a', as', ea', sq', w1', w2'⟩ := stL_of nd r1 dv q3
                exact ⟨a, a', as, as', by rw [ea, ea'], .inl ⟨sq, sq', h F1 H1 _ e1 r1 ⟨wk_zp (Sq := fun H => SqL X.K H a) (Sr := fun H => SqL X.K H a') (fun _ _ p => p.2) w1 w1' rfl rfl rfl, fun z => wk_zp (Sq := fun H => SqL X.K H a) (Sr := fun H => SqL X.K H a') (fun _ _ p => p.2) (w2 (frzs2 z).1) (w2' (frzs2 z).2) rfl rfl rfl⟩⟩⟩
            | _ => simp [seenW, seens, q2, q3, walk, zipS, R.of] at h; exact h.elim
          | _ => simp [seenW, seens, q2, q3, walk, zipS, R.of] at h; exact h.elim
/-! ### comprehensions -/
theorem Rel.put {p : Addr} {o : HO} (r : Rel K F μ S H) (hF : F p = none) (hm : p ∉ μ) (hl : ∀ u, H p = some u → ∃ xs, u = .lst xs) : Rel K F μ S (upd H p o) := by
  refine ⟨fun a u e => ?_, r.len, r.nd, fun k a xs e1 e2 => ?_, r.dis, r.ft, tabs_upd r.tab hl, fun k a x fs e1 e2 => (r.ob2 k a x fs e1 e2).to (fun _ _ h => h) (fun _ _ h => h) fun o _ h => by rw [upd_ne (fun z => hm (by rw [← z]; exact List.mem_of_getElem? e1))]; exact h⟩
  · have q : a ≠ p := fun z => by rw [z, hF] at e; cases e
    rw [upd_ne q]; exact r.sub a u e
  · obtain ⟨vs, h1, h2⟩ := r.obj k a xs e1 e2
    have q : a ≠ p := fun z => hm (by rw [← z]; exact List.mem_of_getElem? e1)
    exact ⟨vs, by rw [upd_ne q]; exact h1, h2⟩
theorem isLst {H : Hp} {p : Addr} {xs : List V} (h : H p = some (.lst xs)) : ∀ u, H p = some u → ∃ ys, u = .lst ys := fun u e => by rw [h] at e; cases e; exact ⟨xs, rfl⟩
theorem Ext.put {p : Addr} {o : HO} {F' H' : Hp} (x : Ext μ F H F' H') (hp : Gone H p) (no : NT o) : Ext μ F H F' (upd H' p o) := by
  refine ⟨x.fs, x.fn, fun a u e n m => ?_, fun a e => gone_upd (x.live a e) no⟩
  rw [upd_ne (goneNe (lv e n) hp)]; exact x.keep a u e n m
theorem ev_comp {kind : Nat} {its : List CE} {tg : Tg} {own : List Nat} {conds : List CE} {elt : CE} {s : Store} :
    ev G (.comp kind its tg own conds elt) ρ s = (wkM G kind its ρ s).bind fun p s => (compL (turnC G tg own conds elt ρ) p.2 [] s).bind fun ys s => .ok (.own (.lst ys)) s := by
  rw [ev]
  unfold wkM
  cases evl G its ρ s with
  | bad => rfl
  | ex c p s1 => rfl
  | ok bs s1 =>
    simp only [R.bind, seenW]
    cases (seens bs).bind (walk kind) with
    | none => rfl
    | some xs => rfl
def WF0 : WX := fun _ _ _ _ => False
theorem compL_nx (f : D → Store → R (Option D)) : ∀ (xs acc : List D) (S : Store), ∀ c p s', compL f xs acc S ≠ .ex c p s' := by
  intro xs
  induction xs with
  | nil => intro acc S c p s' e; rw [compL] at e; cases e
  | cons x xs ih =>
    intro acc S c p s' e
    rw [compL] at e
    split at e
    · split at e
      · exact ih _ _ _ _ _ e
      · cases e
    · exact ih _ _ _ _ _ e
    · cases e
theorem comp_rd {kind : Nat} {its : List CE} {tg : Tg} {own : List Nat} {conds : List CE} {elt : CE} {Q : VK} (hsl : ∀ i ∈ tg.slots, i ∈ own) (h : tM K xc W (ev G (.comp kind its tg own conds elt)) σ H Q) :
    tLc (tMI K xc W (wkM G kind its)) (gOf K tg) (tMT K xc WF0 (evConds G conds)) (tM K xc WF0 (ev G elt)) own σ H Q := by
  obtain ⟨F, μ, S, ρ, rel, er, h⟩ := h
  rw [ev_comp] at h
  refine ⟨F, μ, S, ρ, rel, er, ?_⟩
  cases q : wkM G kind its ρ S with
  | bad => rw [q] at h; exact h.elim
  | ex c p S1 => rw [q] at h; exact h
  | ok p S1 =>
  obtain ⟨bs, xs⟩ := p
  rw [q] at h
  have h : okE K xc μ W F H σ ((compL (turnC G tg own conds elt ρ) xs [] S1).bind fun ys s => .ok (.own (.lst ys)) s) Q := h
  intro F1 H1 J e1 r1 wk D hD
  have wk := wk.1
  have nx := compL_nx (turnC G tg own conds elt ρ)
  cases qc : compL (turnC G tg own conds elt ρ) xs [] S1 with
  | bad => rw [qc] at h; exact h.elim
  | ex c p s' => exact absurd qc (nx _ _ _ _ _ _)
  | ok ys S2 =>
  rw [qc] at h
  have h : okE K xc μ W F H σ (.ok (.own (.lst ys)) S2) Q := h
  obtain ⟨o1, o2⟩ := r1.out (.of hD)
  refine ⟨fun i m H2 => m = xs.length - i ∧ i ≤ xs.length ∧ ∃ F2 Sx acc vs, Rel K F2 μ Sx H2 ∧ Ext μ F1 H1 F2 H2 ∧ H2 D = some (.lst vs) ∧ RpL K F2 vs acc ∧ F2 D = none ∧ compL (turnC G tg own conds elt ρ) (xs.drop i) acc Sx = .ok ys S2,
    ⟨_, rfl, Nat.zero_le _, F1, S1, [], [], r1.newOwn hD, Ext.newOwn hD nt_lst, upd_same, .nil, o1, qc⟩, ?_⟩
  rintro i m H2 ⟨rfl, hi, F2, Sx, acc, vs, r2, e2, h2, a2, n2, q2⟩
  by_cases hlt : i < xs.length
  · refine .inr ⟨wk.go i F2 H2 ⟨e2, r2.sub⟩ hlt, _, fun H' p => ⟨xs.length - (i + 1), by omega, rfl, hlt, p⟩, fun x H' y => ?_⟩
    obtain ⟨F2', nw, d, hd, rx⟩ := wk.yld i F2 H2 x H' ⟨e2, r2.sub⟩ y hlt
    have x2 := nw.ext (μ := μ) r2.sub
    replace r2 := nw.rel r2
    replace n2 := nw.non h2 n2
    replace h2 := nw.keep h2
    replace a2 := a2.mono x2.fs
    replace e2 := e2.trans x2
    have ed : xs.drop i = d :: xs.drop (i + 1) := by
      rw [List.drop_eq_getElem_cons hlt]
      rw [List.getElem?_eq_getElem hlt] at hd
      cases hd
      rfl
    rw [ed, compL] at q2
    cases qb : bindT tg d (wipe ρ own) with
    | none => simp [turnC, qb] at q2
    | some ρ' =>
    have qt : turnC G tg own conds elt ρ d Sx = (evConds G conds ρ' Sx).bind fun k s => if k then (ev G elt ρ' s).bind fun b s => .of (b.frz.map some) s else .ok none s := by simp [turnC, qb]
    rw [qt] at q2
    refine bindT_ok tg qb r2.sub rx ((er.step (e1.trans e2)).wipe own) fun σ' er' w _ => ⟨(w own hsl).trans wipe_wipe, F2', μ, Sx, ρ', r2, er', ?_⟩
    cases qk : evConds G conds ρ' Sx with
    | bad => rw [qk] at q2; cases q2
    | ex c p s1 => rw [qk] at q2; cases q2
    | ok k S3 =>
    rw [qk] at q2
    intro F3 H3 e3 r3
    have h3 := e3.keep D _ h2 (fun _ z => by cases z) o2
    have n3 : F3 D = none := (e3.fn D (lvL h2)).trans n2
    cases k with
    | false =>
      rw [if_neg (by decide)]
      exact ⟨F3, S3, acc, vs, r3, e2.trans e3, h3, a2.mono e3.fs, n3, q2⟩
    | true =>
      rw [if_pos rfl]
      refine ⟨F3, μ, S3, ρ', r3, er'.step e3, ?_⟩
      cases qe : ev G elt ρ' S3 with
      | bad => simp [R.bind, qe] at q2
      | ex c p s1 => simp [R.bind, qe] at q2
      | ok b S4 =>
      cases qf : b.frz with
      | none => simp [R.bind, qe, qf, R.of] at q2
      | some d' =>
      simp only [R.bind, qe, qf, R.of, Option.map_some, if_true] at q2
      have hln : acc.length < line := Decidable.byContradiction fun z => by rw [if_neg z] at q2; cases q2
      rw [if_pos hln] at q2
      refine okE_still ?_
      intro F4 H4 v e4 r4 bv _
      have eb : b.still = .t d' := still_frz qf
      rw [eb] at bv
      have h4 := e4.keep D _ h3 (fun _ z => by cases z) o2
      have n4 : F4 D = none := (e4.fn D (lvL h3)).trans n3
      refine ⟨vs, h4, by rw [a2.length, ← line_eq]; exact hln, F4, S4, acc ++ [d'], vs ++ [v], r4.put n4 o2 (isLst h4), ((e2.trans e3).trans e4).put (.of hD) nt_lst, upd_same, ((a2.mono e3.fs).mono e4.fs).append (.cons bv .nil), n4, q2⟩
  · have e : i = xs.length := by omega
    subst e
    refine .inl ⟨wk.stop F2 H2 ⟨e2, r2.sub⟩, ?_⟩
    rw [List.drop_length, compL] at q2
    cases q2
    refine h F2 H2 _ (e1.trans e2) r2 ⟨D, vs, _, rfl, rfl, h2, a2, n2, o2⟩ fun a ea => ?_
    cases ea
    exact e1.back (.of hD)
theorem r_comp {tg iter elt : Expr} {ifs : List Expr} {scope : Scope} {own : List (Str × Nat)} {pos : Pos} {kind : Nat} {its : List CE} {tgc : Tg} {ownc : List Nat} {conds : List CE} {celt : CE} (hc : X.calm = true) (hN : X.N.Nodup)
    (hi : PI X tg iter (tMI X.K xc W (wkM G kind its))) (ok : BlkOk X.N X.env.scope scope own) (ho : own.map (·.2) = ownc) (hsl : ∀ i ∈ tgc.slots, i ∈ ownc)
    (hg : ∀ (s : Shared) (H : Hp) (C : Addr) (cl : List (Str × Addr)) (fp : List Addr), PG (X.blk s H scope (compEnvC scope cl C X.env) fp) tg (gOf X.K tgc))
    (ht : ∀ (s : Shared) (H : Hp) (C : Addr) (cl : List (Str × Addr)) (fp : List Addr), PTs (X.blk s H scope (compEnvC scope cl C X.env) fp) ifs (tMT X.K xc WF0 (evConds G conds)))
    (he : ∀ (s : Shared) (H : Hp) (C : Addr) (cl : List (Str × Addr)) (fp : List Addr), PE (X.blk s H scope (compEnvC scope cl C X.env) fp) elt (tM X.K xc WF0 (ev G celt)))
    (hs : ∀ x, foldedSetIterable iter X.env x = pure x) : PE X (.ListComp elt [⟨tg, iter, ifs, 0⟩] scope pos) (tM X.K xc W (ev G (.comp kind its tgc ownc conds celt))) :=
  PE.weak (pe_lc hc hN hi ok hg ht he hs) fun σ H Q q => by
    rw [ho]
    exact comp_rd hsl q
theorem ts_nil : PTs X [] (tMT X.K xc W (evConds G [])) := ⟨fun pins s σ H Q I ⟨F, μ, S, ρ, rel, er, h⟩ => pts_nil.run pins s σ H Q I (h F H (Ext.refl _ _ _) rel)⟩
theorem ts_one {e : Expr} {c : CE} (h : PT X e (tMT X.K xc W (evT G c))) : PTs X [e] (tMT X.K xc W (evConds G [c])) := ⟨fun pins s σ H Q I ⟨F, μ, S, ρ, rel, er, q⟩ => (pts_one h).run pins s σ H Q I ⟨F, μ, S, ρ, rel, er, by
  have e : evConds G [c] ρ S = evT G c ρ S := by
    unfold evT
    rw [evConds]
    cases ev G c ρ S with
    | ok x s =>
      simp only [R.bind]
      cases truB x s with
      | none => rfl
      | some k => cases k <;> simp [R.of, evConds]
    | ex c p s => rfl
    | bad => rfl
  rw [← e]
  exact q⟩⟩
end
end Zw
set_option Elab.async false
set_option linter.all false
set_option maxRecDepth 100000
/-! Zw7: statements. -/
namespace Zw
open PySem PySem.Spec PyProof.Rows L2
/-- the state within a def that was entered at F0, μ0, H0 -/
structure SR (K : PySem.W.Frag) (F0 : Hp) (μ0 : List Addr) (H0 F : Hp) (μ : List Addr) (S : Store) (H : Hp) (ρ : Env) (σ : L2.St) : Prop where
  rel : Rel K F μ S H
  er : ER K F μ H ρ σ
  ext : Ext μ0 F0 H0 F H
  pre : ∃ ν, μ = μ0 ++ ν ∧ ∀ a ∈ ν, Gone H0 a
  own : ∀ (i : Nat) (d : D) (a : Addr), ρ[i]? = some (some (B.own d)) → σ[i]? = some (some (V.ref a)) → Gone H0 a
/-- what is given back with objects in it: a new tuple, or one object -/
def RoV (K : PySem.W.Frag) (F : Hp) (μ : List Addr) (v : V) (es : List FB) : Bool → Prop
  | true => ∃ p vs, v = .ref p ∧ F p = some (.tup vs) ∧ FbL K F μ vs es
  | false => FbL K F μ [v] es
def okSt (K : PySem.W.Frag) (xc : Nat → Option XCls) (F0 : Hp) (μ0 : List Addr) (H0 : Hp) (W : WX) (D : Ends) (r : RS) : Prop := match r with
  | .nx ρ' S' => ∀ F' μ' H' σ', SR K F0 μ0 H0 F' μ' S' H' ρ' σ' → D.nx σ' H'
  | .bk ρ' S' => ∀ F' μ' H' σ', SR K F0 μ0 H0 F' μ' S' H' ρ' σ' → D.bk σ' H'
  | .ct ρ' S' => ∀ F' μ' H' σ', SR K F0 μ0 H0 F' μ' S' H' ρ' σ' → D.ct σ' H'
  | .rt b S' => ∀ F' μ' H' v, Rel K F' μ' S' H' → Ext μ0 F0 H0 F' H' → (∃ ν, μ' = μ0 ++ ν ∧ ∀ a ∈ ν, Gone H0 a) → BRp K F' μ' H' v b → Fresh H0 v b → b.give = some b → D.rt v H'
  | .ex c p ρ' S' => ∀ F' μ' H' σ' cls d, SR K F0 μ0 H0 F' μ' S' H' ρ' σ' → XR K xc F' H' c p cls d → W cls d σ' H'
  | .ro es w S' => ∀ F' μ' H' v, Rel K F' μ' S' H' → Ext μ0 F0 H0 F' H' → (∃ ν, μ' = μ0 ++ ν ∧ ∀ a ∈ ν, Gone H0 a) → RoV K F' μ' v es w → D.rt v H'
  | .bad => False
def tMS (K : PySem.W.Frag) (xc : Nat → Option XCls) (W : WX) (m : Env → Store → RS) : TS := fun D σ H =>
  ∃ F0 μ0 H0 F μ S ρ, SR K F0 μ0 H0 F μ S H ρ σ ∧ okSt K xc F0 μ0 H0 W D (m ρ S)
section
variable {X : Cx} {K : PySem.W.Frag} {xc : Nat → Option XCls} {W : WX} {F0 F H0 H F1 H1 : Hp} {μ0 μ : List Addr} {S S1 : Store} {σ : L2.St} {ρ : Env} {G : Gx} {D : Ends}
theorem Ext.under (x : Ext μ0 F0 H0 F H) (p : ∃ ν, μ = μ0 ++ ν ∧ ∀ a ∈ ν, Gone H0 a) (y : Ext μ F H F1 H1) : Ext μ0 F0 H0 F1 H1 := by
  obtain ⟨ν, rfl, hν⟩ := p
  refine ⟨fun a o h => y.fs a o (x.fs a o h), fun a h => (y.fn a (x.live a h)).trans (x.fn a h), fun a o h n m => y.keep a o (x.keep a o h n m) n fun z => ?_, fun a h => y.live a (x.live a h)⟩
  rcases List.mem_append.mp z with z | z
  · exact m z
  · exact hν a z o h n
theorem SR.step (s : SR K F0 μ0 H0 F μ S H ρ σ) (e : Ext μ F H F1 H1) (r : Rel K F1 μ S1 H1) : SR K F0 μ0 H0 F1 μ S1 H1 ρ σ :=
  ⟨r, s.er.step e, s.ext.under s.pre e, s.pre, s.own⟩
/-! ### an expression within a statement -/
theorem toE {r : R B} {g : B → Store → RS} {Q : VK} (s : SR K F0 μ0 H0 F μ S H ρ σ) (h : okSt K xc F0 μ0 H0 W D (r.to ρ g))
    (k : ∀ F1 H1 v b S1, Ext μ F H F1 H1 → SR K F0 μ0 H0 F1 μ S1 H1 ρ σ → BRp K F1 μ H1 v b → Fresh H v b → okSt K xc F0 μ0 H0 W D (g b S1) → Q v H1) : okE K xc μ W F H σ r Q := by
  cases r with
  | ok b S1 => exact fun F1 H1 v e r1 bv fr => k F1 H1 v b S1 e (s.step e r1) bv fr h
  | ex c p S1 => exact fun F1 H1 cls d e r1 x => h F1 μ H1 σ cls d (s.step e r1) x
  | bad => exact h
/-- the same, a fresh list taken for a tree -/
theorem toEs {r : R B} {g : B → Store → RS} {Q : VK} (s : SR K F0 μ0 H0 F μ S H ρ σ) (h : okSt K xc F0 μ0 H0 W D (r.to ρ g))
    (k : ∀ F1 H1 v b S1, Ext μ F H F1 H1 → SR K F0 μ0 H0 F1 μ S1 H1 ρ σ → BRp K F1 μ H1 v b.still → okSt K xc F0 μ0 H0 W D (g b S1) → Q v H1) : okE K xc μ W F H σ r Q := by
  refine okE_still ?_
  cases r with
  | ok b S1 => exact fun F1 H1 v e r1 bv fr => k F1 H1 v b S1 e (s.step e r1) bv h
  | ex c p S1 => exact fun F1 H1 cls d e r1 x => h F1 μ H1 σ cls d (s.step e r1) x
  | bad => exact h
theorem toT {r : R Bool} {g : Bool → Store → RS} {Q : Bool → Hp → Prop} (s : SR K F0 μ0 H0 F μ S H ρ σ) (h : okSt K xc F0 μ0 H0 W D (r.to ρ g))
    (k : ∀ F1 H1 b S1, SR K F0 μ0 H0 F1 μ S1 H1 ρ σ → okSt K xc F0 μ0 H0 W D (g b S1) → Q b H1) : okT K xc μ W F H σ r Q := by
  cases r with
  | ok b S1 => exact fun F1 H1 e r1 => k F1 H1 b S1 (s.step e r1) h
  | ex c p S1 => exact fun F1 H1 cls d e r1 x => h F1 μ H1 σ cls d (s.step e r1) x
  | bad => exact h
/-! ### slots -/
theorem ER.setB (er : ER K F μ H ρ σ) {i : Nat} {v : V} {b : B} (h : BRp K F μ H v b) (hb : b.give = some b)
    (hs : ∀ (d : Zw.D) (a : Addr), b = .own d → v = .ref a → ∀ (j : Nat) (d' : Zw.D), (ρ[j]? = some (some (B.own d')) ∨ ρ[j]? = some (some (B.bor d'))) → σ[j]? ≠ some (some (V.ref a))) : ER K F μ H (ρ.set i (some b)) (σ.set i (some v)) := by
  have hl := er.len
  have gs : ∀ (j : Nat) (c : B), (ρ.set i (some b))[j]? = some (some c) → (j = i ∧ c = b ∧ i < ρ.length) ∨ (j ≠ i ∧ ρ[j]? = some (some c)) := fun j c e => by
    by_cases q : j = i
    · subst q
      by_cases l : j < ρ.length
      · rw [List.getElem?_set_self l] at e
        cases e
        exact .inl ⟨rfl, rfl, l⟩
      · rw [List.getElem?_eq_none (by simpa using l)] at e; cases e
    · rw [List.getElem?_set_ne (Ne.symm q)] at e
      exact .inr ⟨q, e⟩
  refine ⟨by simpa using hl, fun j c e => ?_, fun j k d1 d2 a n e1 e2 e3 => ?_⟩
  · rcases gs j c e with ⟨q, e2, l⟩ | ⟨q, e2⟩
    · subst q e2
      exact ⟨v, List.getElem?_set_self (by omega), h⟩
    · obtain ⟨w, h1, h2⟩ := er.val j c e2
      exact ⟨w, by rw [List.getElem?_set_ne (Ne.symm q)]; exact h1, h2⟩
  · have g2 : (k = i ∧ b = .own d2) ∨ (k ≠ i ∧ (ρ[k]? = some (some (.own d2)) ∨ ρ[k]? = some (some (.bor d2)))) := by
      rcases e2 with e2 | e2
      · rcases gs k _ e2 with ⟨q, e2, _⟩ | x
        · exact .inl ⟨q, e2.symm⟩
        · exact .inr ⟨x.1, .inl x.2⟩
      · rcases gs k _ e2 with ⟨q, e2, _⟩ | x
        · rw [← e2] at hb; cases hb
        · exact .inr ⟨x.1, .inr x.2⟩
    rcases gs j _ e1 with ⟨qj, eb, lj⟩ | ⟨qj, ej⟩
    · rcases g2 with ⟨qk, _⟩ | ⟨qk, ek⟩
      · exact absurd (qj.trans qk.symm) n
      · rw [qj, List.getElem?_set_self (by omega)] at e3
        cases e3
        rw [List.getElem?_set_ne (Ne.symm qk)]
        exact hs d1 a eb.symm rfl k d2 ek
    · rw [List.getElem?_set_ne (Ne.symm qj)] at e3
      rcases g2 with ⟨qk, eb⟩ | ⟨qk, ek⟩
      · rw [qk]
        intro z
        by_cases l : i < σ.length
        · rw [List.getElem?_set_self l] at z
          cases z
          exact hs d2 a eb rfl j d1 (.inl ej) e3
        · rw [List.getElem?_eq_none (by simpa using l)] at z; cases z
      · rw [List.getElem?_set_ne (Ne.symm qk)]
        exact er.sep j k d1 d2 a n ej ek e3
theorem SR.setB (s : SR K F0 μ0 H0 F μ S H ρ σ) {i : Nat} {v : V} {b : B} (h : BRp K F μ H v b) (hb : b.give = some b)
    (hs : ∀ (d : Zw.D) (a : Addr), b = .own d → v = .ref a → Gone H0 a ∧ ∀ (j : Nat) (d' : Zw.D), (ρ[j]? = some (some (B.own d')) ∨ ρ[j]? = some (some (B.bor d'))) → σ[j]? ≠ some (some (V.ref a))) : SR K F0 μ0 H0 F μ S H (ρ.set i (some b)) (σ.set i (some v)) := by
  refine ⟨s.rel, s.er.setB h hb fun d a e1 e2 => (hs d a e1 e2).2, s.ext, s.pre, fun j d a e1 e2 => ?_⟩
  by_cases q : j = i
  · subst q
    by_cases l : j < ρ.length
    · rw [List.getElem?_set_self l] at e1
      rw [List.getElem?_set_self (by rw [← s.er.len]; exact l)] at e2
      cases e1
      cases e2
      exact (hs d a rfl rfl).1
    · rw [List.getElem?_eq_none (by simpa using l)] at e1; cases e1
  · rw [List.getElem?_set_ne (Ne.symm q)] at e1 e2
    exact s.own j d a e1 e2
/-- own and borrowed lists lie in the heap -/
theorem ER.live (er : ER K F μ H ρ σ) {j : Nat} {d : Zw.D} {a : Addr} (e : ρ[j]? = some (some (B.own d)) ∨ ρ[j]? = some (some (B.bor d))) (h : σ[j]? = some (some (V.ref a))) : ¬ Gone H a := by
  have : ∃ v, σ[j]? = some (some v) ∧ OwnAt K F μ H v d := by
    rcases e with e | e
    · exact er.val j _ e
    · exact er.val j _ e
  obtain ⟨v, h1, c, xs, ds, e1, _, h2, _⟩ := this
  rw [h] at h1
  cases h1
  cases e1
  exact lvL h2
theorem give_eq {b c : B} (h : b.give = some c) : c = b ∧ b.give = some b := by
  cases b with
  | t d => cases h; exact ⟨rfl, rfl⟩
  | own d => cases h; exact ⟨rfl, rfl⟩
  | bor d => cases h
  | sc d => cases h
  | r k => cases h
theorem SR.fresh (s : SR K F0 μ0 H0 F μ S H ρ σ) {v : V} {b : B} (fr : Fresh H v b) : ∀ (d : Zw.D) (a : Addr), b = .own d → v = .ref a → Gone H0 a ∧ ∀ (j : Nat) (d' : Zw.D), (ρ[j]? = some (some (B.own d')) ∨ ρ[j]? = some (some (B.bor d'))) → σ[j]? ≠ some (some (V.ref a)) := by
  intro d a e1 e2
  subst e1
  have hn : Gone H a := fr a e2
  exact ⟨s.ext.back hn, fun j d' e3 e4 => s.er.live e3 e4 hn⟩
/-- as trees alone -/
theorem SR.bind {tg : Tg} {d : Zw.D} {v : V} {ρ' : Env} {Q : L2.St → Hp → Prop} (s : SR K F0 μ0 H0 F μ S H ρ σ) (h : bindT tg d ρ = some ρ') (r : Rp K F v d) (k : ∀ σ', SR K F0 μ0 H0 F μ S H ρ' σ' → Q σ' H) : gOf K tg v σ H Q :=
  bindT_ok tg h s.rel.sub r s.er fun σ' er' _ o => k σ' ⟨s.rel, er', s.ext, s.pre, fun i d a e1 e2 => by
    obtain ⟨h1, h2⟩ := o i d e1
    exact s.own i d a h1 (by rw [← h2]; exact e2)⟩
/-! ### small statements -/
theorem s_pass {pos : Pos} : PS X (.Pass pos) (tMS X.K xc W (exec G .pass)) := PS.weak ps_pass fun D σ H ⟨F0, μ0, H0, F, μ, S, ρ, s, h⟩ => by
  rw [exec] at h
  exact h F μ H σ s
theorem s_brk {pos : Pos} : PS X (.Break pos) (tMS X.K xc W (exec G .brk)) := PS.weak ps_break fun D σ H ⟨F0, μ0, H0, F, μ, S, ρ, s, h⟩ => by
  rw [exec] at h
  exact h F μ H σ s
theorem s_cont {pos : Pos} : PS X (.Continue pos) (tMS X.K xc W (exec G .cont)) := PS.weak ps_continue fun D σ H ⟨F0, μ0, H0, F, μ, S, ρ, s, h⟩ => by
  rw [exec] at h
  exact h F μ H σ s
theorem s_never {st : Stmt} : PS X st (tMS X.K xc W (exec G .never)) := PS.weak ps_never fun D σ H ⟨F0, μ0, H0, F, μ, S, ρ, s, h⟩ => by
  rw [exec] at h
  exact h
theorem s_expr {e : Expr} {c : CE} {pos : Pos} (he : PE X e (tM X.K xc W (ev G c))) (hs : swapsWith e none pos.line X.env = pure false) : PS X (.Expr e pos) (tMS X.K xc W (exec G (.expr c))) :=
  PS.weak (ps_expr he hs) fun D σ H ⟨F0, μ0, H0, F, μ, S, ρ, s, h⟩ => ⟨F, μ, S, ρ, s.rel, s.er, toE (g := fun _ s => .nx ρ s) s (by rw [exec] at h; exact h) fun F1 H1 v b S1 e1 s1 bv fr h1 => h1 F1 μ H1 σ s1⟩
theorem asg_rd {i : Nat} {c : CE} {σ : L2.St} {H : Hp} (h : tMS K xc W (exec G (.asg i c)) D σ H) : tAsg (tM K xc W (ev G c)) (gName i) D σ H := by
  obtain ⟨F0, μ0, H0, F, μ, S, ρ, s, h⟩ := h
  refine ⟨F, μ, S, ρ, s.rel, s.er, toE s (by rw [exec] at h; exact h) fun F1 H1 v b S1 e1 s1 bv fr h1 => ?_⟩
  cases q : b.give with
  | none => rw [q] at h1; exact h1.elim
  | some c =>
    rw [q] at h1
    obtain ⟨rfl, hb⟩ := give_eq q
    have hs := s.fresh fr
    exact h1 F1 μ H1 _ (s1.setB bv hb hs)
theorem s_asg {i : Nat} {x : Str} {e : Expr} {c : CE} {pos pos' : Pos} (hN : X.N.Nodup) (hi : X.N[i]? = some x) (hx : Loc X.env.scope x) (he : PE X e (tM X.K xc W (ev G c))) (hs : swapsWith e (some (.Name x pos')) pos.line X.env = pure false)
    (hf : X.fn x = true ∨ X.env.scope.names.lookup x = some .local) : PS X (.Assign [.Name x pos'] e pos) (tMS X.K xc W (exec G (.asg i c))) :=
  PS.weak (ps_set hN hi hx he hs hf) fun D σ H h => asg_rd h
theorem frz_still {b : B} {d : Zw.D} (h : b.frz = some d) {v : V} (bv : BRp K F μ H v b.still) : Rp K F v d := by rw [still_frz h] at bv; exact bv
theorem s_asgT {tg e : Expr} {t : Tg} {c : CE} {pos : Pos} (he : PE X e (tM X.K xc W (ev G c))) (hg : PG X tg (gOf X.K t)) (hs : swapsWithSole [tg] e pos.line X.env = pure false) (hw : swappedStores [tg] e X.env = pure none)
    (h1 : (assignEach [tg] X.env).map (·.2) = [assign tg X.env]) : PS X (.Assign [tg] e pos) (tMS X.K xc W (exec G (.asgT t c))) :=
  PS.weak (ps_asg he hg hs hw h1) fun D σ H ⟨F0, μ0, H0, F, μ, S, ρ, s, h⟩ => by
    refine ⟨F, μ, S, ρ, s.rel, s.er, toEs s (by rw [exec] at h; exact h) fun F1 H1 v b S1 e1 s1 bv h1 => ?_⟩
    cases q : b.frz with
    | none => rw [q] at h1; exact h1.elim
    | some d =>
      rw [q] at h1
      have h1 : okSt X.K xc F0 μ0 H0 W D (match bindT t d ρ with | some ρ' => .nx ρ' S1 | none => .bad) := h1
      cases q2 : bindT t d ρ with
      | none => rw [q2] at h1; exact h1.elim
      | some ρ' =>
        rw [q2] at h1
        exact s1.bind q2 (frz_still q bv) fun σ' s' => h1 F1 μ H1 σ' s'
theorem s_retN {pos : Pos} : PS X (.Return none pos) (tMS X.K xc W (exec G .retN)) := PS.weak ps_retN fun D σ H ⟨F0, μ0, H0, F, μ, S, ρ, s, h⟩ => by
  rw [exec] at h
  exact h F μ H .non s.rel s.ext s.pre .non trivial rfl
theorem s_retV {i : Nat} {e : Expr} {pos : Pos} (he : PE X e (tVar i)) : PS X (.Return (some e) pos) (tMS X.K xc W (exec G (.ret (.var i)))) := PS.weak (ps_ret he) fun D σ H ⟨F0, μ0, H0, F, μ, S, ρ, s, h⟩ => by
  rw [exec] at h
  cases q : ρ[i]? with
  | none => rw [q] at h; exact h.elim
  | some o => cases o with
    | none => rw [q] at h; exact h.elim
    | some b =>
      rw [q] at h
      obtain ⟨v, h1, h2⟩ := s.er.val i b q
      refine ⟨v, h1, ?_⟩
      have h' : okSt X.K xc F0 μ0 H0 W D (match b.give with | some b => .rt b S | none => .bad) := h
      cases q2 : b.give with
      | none => rw [q2] at h'; exact h'.elim
      | some c =>
        rw [q2] at h'
        obtain ⟨rfl, hb⟩ := give_eq q2
        refine h' F μ H v s.rel s.ext s.pre h2 ?_ hb
        cases c with
        | own d => exact fun a e => s.own i d a q (by rw [h1, e])
        | t d => trivial
        | _ => cases hb
/-! an owned list stands still -/
theorem SR.frz (s : SR K F0 μ0 H0 F μ S H ρ σ) {i : Nat} {b : B} (hi : ρ[i]? = some (some b)) : ∃ F', SR K F0 μ0 H0 F' μ S H (ρ.set i (some b.still)) σ ∧ Same F F' := by
  have hσ : ∀ {v : V}, σ[i]? = some (some v) → σ.set i (some v) = σ := fun {v} e => by
    refine List.ext_getElem? fun j => ?_
    by_cases q : j = i
    · subst q
      rw [List.getElem?_set_self (List.getElem?_eq_some_iff.mp e).1, e]
    · rw [List.getElem?_set_ne (Ne.symm q)]
  obtain ⟨v, h1, h2⟩ := s.er.val i b hi
  have plain : b.still = b → ∃ F', SR K F0 μ0 H0 F' μ S H (ρ.set i (some b.still)) σ ∧ Same F F' := fun e => by
    refine ⟨F, ?_, fun _ _ h => h⟩
    rw [e, show ρ.set i (some b) = ρ from List.ext_getElem? fun j => by
      by_cases q : j = i
      · subst q
        rw [List.getElem?_set_self (List.getElem?_eq_some_iff.mp hi).1, hi]
      · rw [List.getElem?_set_ne (Ne.symm q)]]
    exact s
  cases b with
  | t d => exact plain rfl
  | bor d => exact plain rfl
  | sc d => exact plain rfl
  | r k => exact plain rfl
  | own d =>
    obtain ⟨a, xs, ds, e1, e2, ha, rs, n, m⟩ := h2
    subst e1 e2
    have h0 := s.own i _ a hi h1
    have sF : Same F (upd F a (.lst xs)) := fun b o e => by
      have q : b ≠ a := fun z => by rw [z, n] at e; cases e
      rw [upd_ne q]; exact e
    have r' := s.rel.still ha n m
    refine ⟨_, ?_, sF⟩
    have gs : ∀ (j : Nat) (c : B), (ρ.set i (some (B.own (.lst ds)).still))[j]? = some (some c) → (j = i ∧ c = .t (.lst ds)) ∨ (j ≠ i ∧ ρ[j]? = some (some c)) := fun j c e => by
      by_cases q : j = i
      · subst q
        rw [List.getElem?_set_self (List.getElem?_eq_some_iff.mp hi).1] at e
        cases e
        exact .inl ⟨rfl, rfl⟩
      · rw [List.getElem?_set_ne (Ne.symm q)] at e
        exact .inr ⟨q, e⟩
    have own' : ∀ (j : Nat) (w : V) (d : Zw.D), j ≠ i → (ρ[j]? = some (some (B.own d)) ∨ ρ[j]? = some (some (B.bor d))) → σ[j]? = some (some w) → OwnAt K F μ H w d → OwnAt K (upd F a (.lst xs)) μ H w d := fun j w d q ej hw ⟨c, ys, es, e1, e2, hc, rc, nc, mc⟩ => by
      have qa : c ≠ a := fun z => by
        subst e1 z
        exact s.er.sep i j _ d c (Ne.symm q) hi ej h1 hw
      exact ⟨c, ys, es, e1, e2, hc, rc.mono sF, by rw [upd_ne qa]; exact nc, mc⟩
    refine ⟨r', ⟨by rw [List.length_set]; exact s.er.len, fun j c e => ?_, fun j k d1 d2 a1 nn e1 e2 e3 => ?_⟩, s.ext.still n h0, s.pre, fun j d a1 e1 e2 => ?_⟩
    · rcases gs j c e with ⟨q, e2⟩ | ⟨q, e2⟩
      · subst q e2
        exact ⟨_, h1, .lst upd_same (rs.mono sF)⟩
      · obtain ⟨w, hw, bw⟩ := s.er.val j c e2
        refine ⟨w, hw, ?_⟩
        cases c with
        | t d => exact Rp.mono sF bw
        | own d => exact own' j w d q (.inl e2) hw bw
        | bor d => exact own' j w d q (.inr e2) hw bw
        | sc d => obtain ⟨c, ys, es, e1, e2, hc, rc⟩ := bw; exact ⟨c, ys, es, e1, e2, hc, rc.mono sF⟩
        | r k => exact bw
    · rcases gs j _ e1 with ⟨_, z⟩ | ⟨_, e1⟩
      · cases z
      · refine s.er.sep j k d1 d2 a1 nn e1 ?_ e3
        rcases e2 with e2 | e2
        · rcases gs k _ e2 with ⟨_, z⟩ | ⟨_, e2⟩
          · cases z
          · exact .inl e2
        · rcases gs k _ e2 with ⟨_, z⟩ | ⟨_, e2⟩
          · cases z
          · exact .inr e2
    · rcases gs j _ e1 with ⟨_, z⟩ | ⟨_, e1⟩
      · cases z
      · exact s.own j d a1 e1 e2
theorem SR.still (s : SR K F0 μ0 H0 F μ S H ρ σ) : ∃ F', SR K F0 μ0 H0 F' μ S H (Zw.still ρ) σ ∧ Same F F' := by
  have go : ∀ n, n ≤ ρ.length → ∃ F', SR K F0 μ0 H0 F' μ S H ((Zw.still ρ).take n ++ ρ.drop n) σ ∧ Same F F' := by
    intro n
    induction n with
    | zero => intro _; exact ⟨F, by simpa using s, fun _ _ h => h⟩
    | succ n ih =>
      intro hn
      obtain ⟨F', s', sF⟩ := ih (by omega)
      have hl : ((Zw.still ρ).take n).length = n := by simp [Zw.still]; omega
      have hg : ((Zw.still ρ).take n ++ ρ.drop n)[n]? = ρ[n]? := by
        rw [List.getElem?_append_right (by omega), hl, Nat.sub_self, List.getElem?_drop]
        rfl
      have he : ρ[n]? = some (ρ[n]'(by omega)) := List.getElem?_eq_getElem _
      have nxt : ∀ o, ρ[n]? = some o → (Zw.still ρ).take (n + 1) ++ ρ.drop (n + 1) = ((Zw.still ρ).take n ++ ρ.drop n).set n (o.map B.still) := fun o eo => by
        refine List.ext_getElem? fun j => ?_
        have hl2 : ((Zw.still ρ).take (n + 1)).length = n + 1 := by simp [Zw.still]; omega
        by_cases q : j = n
        · subst q
          rw [List.getElem?_set_self (by rw [List.length_append, hl, List.length_drop]; omega), List.getElem?_append_left (by omega), List.getElem?_take_of_lt (by omega)]
          unfold Zw.still
          rw [List.getElem?_map, eo]
          rfl
        · rw [List.getElem?_set_ne (Ne.symm q)]
          by_cases l : j < n
          · rw [List.getElem?_append_left (by omega), List.getElem?_append_left (by omega), List.getElem?_take_of_lt (by omega), List.getElem?_take_of_lt l]
          · rw [List.getElem?_append_right (by omega), List.getElem?_append_right (by omega), hl, hl2, List.getElem?_drop, List.getElem?_drop]
            congr 1
            omega
      cases q : ρ[n]? with
      | none => rw [q] at he; cases he
      | some o =>
        rw [nxt o q]
        cases o with
        | none =>
          refine ⟨F', ?_, sF⟩
          rw [show ((Zw.still ρ).take n ++ ρ.drop n).set n (Option.map B.still none) = (Zw.still ρ).take n ++ ρ.drop n from List.ext_getElem? fun j => by
            by_cases qj : j = n
            · subst qj
              rw [List.getElem?_set_self (by rw [List.length_append, hl, List.length_drop]; omega), hg, q]
              rfl
            · rw [List.getElem?_set_ne (Ne.symm qj)]]
          exact s'
        | some b =>
          obtain ⟨F2, s2, sF2⟩ := s'.frz (i := n) (b := b) (by rw [hg, q])
          exact ⟨F2, s2, fun a o h => sF2 a o (sF a o h)⟩
  obtain ⟨F', s', sF⟩ := go ρ.length (Nat.le_refl _)
  refine ⟨F', ?_, sF⟩
  have hl : (Zw.still ρ).length = ρ.length := by simp [Zw.still]
  rw [List.drop_length, List.append_nil, ← hl, List.take_length] at s'
  exact s'
theorem exec_ret {c : CE} (nv : ∀ i, c ≠ .var i) : exec G (.ret c) ρ S = (ev G c (Zw.still ρ) S).to (Zw.still ρ) fun b s => match b.give with
        | some b => .rt b s
        | none => .bad := by
  cases c <;> first | exact absurd rfl (nv _) | rfl
end
end Zw
set_option Elab.async false
set_option linter.all false
set_option maxRecDepth 100000
/-! Zw8: statements, second part. -/
namespace Zw
open PySem PySem.Spec PyProof.Rows L2
section
variable {X : Cx} {K : PySem.W.Frag} {xc : Nat → Option XCls} {W : WX} {F0 F H0 H F1 H1 : Hp} {μ0 μ : List Addr} {S S1 : Store} {σ : L2.St} {ρ : Env} {G : Gx} {D : Ends}
theorem s_ret {e : Expr} {c : CE} {pos : Pos} (nv : ∀ i, c ≠ .var i) (he : PE X e (tM X.K xc W (ev G c))) : PS X (.Return (some e) pos) (tMS X.K xc W (exec G (.ret c))) :=
  PS.weak (ps_ret he) fun D σ H ⟨F0, μ0, H0, F, μ, S, ρ, s, h⟩ => by
    rw [exec_ret nv] at h
    obtain ⟨F', s', sF⟩ := s.still
    refine ⟨F', μ, S, Zw.still ρ, s'.rel, s'.er, toE s' h fun F1 H1 v b S1 e1 s1 bv fr h1 => ?_⟩
    cases q : b.give with
    | none => rw [q] at h1; exact h1.elim
    | some c =>
      rw [q] at h1
      obtain ⟨rfl, hb⟩ := give_eq q
      refine h1 F1 μ H1 v s1.rel s1.ext s1.pre bv ?_ hb
      cases c with
      | own d => exact fun a e => (s'.fresh fr d a rfl e).1
      | t d => trivial
      | _ => cases hb
/-! ### if, blocks -/
theorem evT_to {c : CE} : ∀ {g : Bool → Store → RS}, (evT G c ρ S).to ρ g = (evT G c ρ S).to ρ g := rfl
theorem s_ite {c : Expr} {a b : List Stmt} {cc : CE} {ca cb : List CS} {pos : Pos} (hc : PT X c (tMT X.K xc W (evT G cc))) (ha : PSs X a (tMS X.K xc W (execs G ca))) (hb : PSs X b (tMS X.K xc W (execs G cb))) :
    PS X (.If c a b pos) (tMS X.K xc W (exec G (.ite cc ca cb))) :=
  PS.weak (ps_if hc ha hb) fun D σ H ⟨F0, μ0, H0, F, μ, S, ρ, s, h⟩ => by
    rw [exec] at h
    refine ⟨F, μ, S, ρ, s.rel, s.er, toT s h fun F1 H1 k S1 s1 h1 => ?_⟩
    cases k with
    | true => exact ⟨F0, μ0, H0, F1, μ, S1, ρ, s1, h1⟩
    | false => exact ⟨F0, μ0, H0, F1, μ, S1, ρ, s1, h1⟩
theorem ss_nil : PSs X [] (tMS X.K xc W (execs G [])) := PSs.weak pss_nil fun D σ H ⟨F0, μ0, H0, F, μ, S, ρ, s, h⟩ => by
  rw [execs] at h
  exact h F μ H σ s
theorem ss_cons {st : Stmt} {sts : List Stmt} {c : CS} {cs : List CS} (h1 : PS X st (tMS X.K xc W (exec G c))) (h2 : PSs X sts (tMS X.K xc W (execs G cs))) : PSs X (st :: sts) (tMS X.K xc W (execs G (c :: cs))) :=
  PSs.weak (pss_cons h1 h2) fun D σ H ⟨F0, μ0, H0, F, μ, S, ρ, s, h⟩ => by
    rw [execs] at h
    refine ⟨F0, μ0, H0, F, μ, S, ρ, s, ?_⟩
    cases q : exec G c ρ S with
    | nx ρ' S' => rw [q] at h; exact fun F' μ' H' σ' s' => ⟨F0, μ0, H0, F', μ', S', ρ', s', h⟩
    | bk ρ' S' => rw [q] at h; exact h
    | ct ρ' S' => rw [q] at h; exact h
    | rt b S' => rw [q] at h; exact h
    | ro es w S' => rw [q] at h; exact h
    | ex c p ρ' S' => rw [q] at h; exact h
    | bad => rw [q] at h; exact h
/-- nothing is done, the rest goes on -/
theorem ss_frz {sts : List Stmt} {i : Nat} {cs : List CS} (h2 : PSs X sts (tMS X.K xc W (execs G cs))) : PSs X sts (tMS X.K xc W (execs G (.frz i :: cs))) :=
  PSs.weak h2 fun D σ H ⟨F0, μ0, H0, F, μ, S, ρ, s, h⟩ => by
    rw [execs, exec] at h
    cases q : ρ[i]? with
    | none => rw [q] at h; exact h.elim
    | some o => cases o with
      | none => rw [q] at h; exact h.elim
      | some b =>
        rw [q] at h
        obtain ⟨F', s', _⟩ := s.frz q
        exact ⟨F0, μ0, H0, F', μ, S, _, s', h⟩
theorem SR.mv (s : SR K F0 μ0 H0 F μ S H ρ σ) {i : Nat} {xs : List Zw.D} (hi : ρ[i]? = some (some (.own (.lst xs)))) : ∃ μ', SR K F0 μ0 H0 F μ' (S ++ [.lst xs]) H (ρ.set i (some (.r S.length))) σ := by
  obtain ⟨v, h1, a, vs, ds, e1, e2, ha, rs, n, m⟩ := s.er.val i _ hi
  cases e1
  cases e2
  have h0 := s.own i _ a hi h1
  have hl := s.rel.len
  refine ⟨μ ++ [a], ⟨s.rel.sub, by simp [hl], ?_, fun k b ys e1 e2 => ?_, fun b hb => ?_, s.rel.ft, s.rel.tab, fun k b x fs e1 e2 => ?_⟩, ⟨by rw [List.length_set]; exact s.er.len, fun j c e => ?_, fun j k d1 d2 a1 nn e1 e2 e3 => ?_⟩, s.ext, ?_, fun j d a1 e1 e2 => ?_⟩
  · refine List.nodup_append.mpr ⟨s.rel.nd, by simp, fun x hx y hy => ?_⟩
    rw [List.mem_singleton.mp hy]
    exact fun z => m (by rw [← z]; exact hx)
  · by_cases l : k < S.length
    · rw [List.getElem?_append_left (by omega)] at e1
      rw [List.getElem?_append_left l] at e2
      exact s.rel.obj k b ys e1 e2
    · have hk : k = S.length := by
        have := (List.getElem?_eq_some_iff.mp e2).1
        simp at this
        omega
      subst hk
      rw [← hl, List.getElem?_append_right (Nat.le_refl _), Nat.sub_self] at e1
      rw [List.getElem?_append_right (Nat.le_refl _), Nat.sub_self] at e2
      cases e1
      cases e2
      exact ⟨vs, ha, rs⟩
  · rcases List.mem_append.mp hb with hb | hb
    · exact s.rel.dis b hb
    · rw [List.mem_singleton.mp hb]; exact n
  · by_cases l : k < S.length
    · rw [List.getElem?_append_left (by omega)] at e1
      rw [List.getElem?_append_left l] at e2
      refine (s.rel.ob2 k b x fs e1 e2).to (fun _ _ h => h) (fun j c e => ?_) fun _ _ h => h
      rw [List.take_append_of_le_length (by omega)]
      exact e
    · have hk : k = S.length := by
        have := (List.getElem?_eq_some_iff.mp e2).1
        simp at this
        omega
      subst hk
      rw [List.getElem?_append_right (Nat.le_refl _), Nat.sub_self] at e2
      cases e2
  · by_cases q : j = i
    · subst q
      rw [List.getElem?_set_self (List.getElem?_eq_some_iff.mp hi).1] at e
      cases e
      exact ⟨_, h1, a, rfl, by rw [← hl, List.getElem?_append_right (Nat.le_refl _), Nat.sub_self]; rfl⟩
    · rw [List.getElem?_set_ne (Ne.symm q)] at e
      obtain ⟨w, hw, bw⟩ := s.er.val j c e
      refine ⟨w, hw, ?_⟩
      have own' : ∀ (d : Zw.D), (ρ[j]? = some (some (B.own d)) ∨ ρ[j]? = some (some (B.bor d))) → OwnAt K F μ H w d → OwnAt K F (μ ++ [a]) H w d := fun d ej ⟨c, ys, es, e1, e2, hc, rc, nc, mc⟩ => by
        refine ⟨c, ys, es, e1, e2, hc, rc, nc, fun z => ?_⟩
        rcases List.mem_append.mp z with z | z
        · exact mc z
        · rw [List.mem_singleton.mp z] at e1
          subst e1
          exact s.er.sep i j _ d a (Ne.symm q) hi ej h1 hw
      cases c with
      | t d => exact bw
      | own d => exact own' d (.inl e) bw
      | bor d => exact own' d (.inr e) bw
      | sc d =>
        obtain ⟨c, ys, es, e1, e2, hc, rc⟩ := bw
        refine ⟨c, ys, es, e1, e2, hc.to fun o h mc => ⟨h, fun z => ?_⟩, rc⟩
        rcases List.mem_append.mp z with z | z
        · exact mc z
        · rw [List.mem_singleton.mp z, ha] at h
          cases h
      | r k =>
        obtain ⟨c, e1, e2⟩ := bw
        exact ⟨c, e1, by rw [List.getElem?_append_left (List.getElem?_eq_some_iff.mp e2).1]; exact e2⟩
  · have back : ∀ (j : Nat) (c : B), (ρ.set i (some (B.r S.length)))[j]? = some (some c) → (∀ k, c ≠ .r k) → ρ[j]? = some (some c) := fun j c e nr => by
      by_cases q : j = i
      · subst q
        rw [List.getElem?_set_self (List.getElem?_eq_some_iff.mp hi).1] at e
        cases e
        exact absurd rfl (nr _)
      · rw [List.getElem?_set_ne (Ne.symm q)] at e
        exact e
    refine s.er.sep j k d1 d2 a1 nn (back j _ e1 (fun _ z => by cases z)) ?_ e3
    rcases e2 with e2 | e2
    · exact .inl (back k _ e2 (fun _ z => by cases z))
    · exact .inr (back k _ e2 (fun _ z => by cases z))
  · obtain ⟨ν, e, hν⟩ := s.pre
    refine ⟨ν ++ [a], by rw [e, List.append_assoc], fun b hb => ?_⟩
    rcases List.mem_append.mp hb with hb | hb
    · exact hν b hb
    · rw [List.mem_singleton.mp hb]; exact h0
  · by_cases q : j = i
    · subst q
      rw [List.getElem?_set_self (List.getElem?_eq_some_iff.mp hi).1] at e1
      cases e1
    · rw [List.getElem?_set_ne (Ne.symm q)] at e1
      exact s.own j d a1 e1 e2
theorem ss_mv {sts : List Stmt} {i : Nat} {cs : List CS} (h2 : PSs X sts (tMS X.K xc W (execs G cs))) : PSs X sts (tMS X.K xc W (execs G (.mv i :: cs))) :=
  PSs.weak h2 fun D σ H ⟨F0, μ0, H0, F, μ, S, ρ, s, h⟩ => by
    rw [execs, exec] at h
    cases q : ρ[i]? with
    | none => rw [q] at h; exact h.elim
    | some o => cases o with
      | none => rw [q] at h; exact h.elim
      | some b => cases b with
        | own d => cases d with
          | lst xs =>
            rw [q] at h
            obtain ⟨μ', s'⟩ := s.mv q
            exact ⟨F0, μ0, H0, F, μ', _, _, s', h⟩
          | _ => rw [q] at h; exact h.elim
        | _ => rw [q] at h; exact h.elim
/-! ### loops -/
theorem Rel.cut (r : Rel K F μ S H) (n : Nat) : Rel K F (μ.take n) (S.take n) H := by
  refine ⟨r.sub, by rw [List.length_take, List.length_take, r.len], (List.take_sublist n μ).nodup r.nd, fun k a xs e1 e2 => ?_, fun a ha => r.dis a (List.mem_of_mem_take ha), r.ft, r.tab, fun k a x fs e1 e2 => ?_⟩
  rotate_left 1
  · have l : k < n := by
      have := (List.getElem?_eq_some_iff.mp e1).1
      rw [List.length_take] at this
      omega
    rw [List.getElem?_take_of_lt l] at e1 e2
    refine (r.ob2 k a x fs e1 e2).to (fun _ _ h => h) (fun j c e => ?_) fun _ _ h => h
    rw [List.take_take, Nat.min_eq_left (Nat.le_of_lt l)]
    exact e
  have l : k < n := by
    have := (List.getElem?_eq_some_iff.mp e1).1
    rw [List.length_take] at this
    omega
  rw [List.getElem?_take_of_lt l] at e1 e2
  exact r.obj k a xs e1 e2
theorem SR.cut (s : SR K F0 μ0 H0 F μ S H ρ σ) {n : Nat} (hn : μ0.length ≤ n) : SR K F0 μ0 H0 F (μ.take n) (S.take n) H (cutE n ρ) σ := by
  have gs : ∀ (j : Nat) (c : B), (cutE n ρ)[j]? = some (some c) → ρ[j]? = some (some c) ∧ B.below n c = some c := fun j c e => by
    unfold cutE at e
    rw [List.getElem?_map] at e
    cases q : ρ[j]? with
    | none => rw [q] at e; cases e
    | some o =>
      rw [q] at e
      cases o with
      | none => cases e
      | some b =>
        have e' : B.below n b = some c := by simpa using e
        have : b = c := by
          cases b with
          | r k =>
            have e2 : (if k < n then some (B.r k) else none) = some c := e'
            by_cases l : k < n
            · rw [if_pos l] at e2; cases e2; rfl
            · rw [if_neg l] at e2; cases e2
          | _ => cases e'; rfl
        subst this
        exact ⟨rfl, e'⟩
  refine ⟨s.rel.cut n, ⟨by simp [cutE, s.er.len], fun j c e => ?_, fun j k d1 d2 a1 nn e1 e2 e3 => ?_⟩, s.ext, ?_, fun j d a e1 e2 => s.own j d a (gs j _ e1).1 e2⟩
  · obtain ⟨e1, e2⟩ := gs j c e
    obtain ⟨w, hw, bw⟩ := s.er.val j c e1
    refine ⟨w, hw, ?_⟩
    cases c with
    | t d => exact bw
    | own d => obtain ⟨c, ys, es, e1, e2, hc, rc, nc, mc⟩ := bw; exact ⟨c, ys, es, e1, e2, hc, rc, nc, fun z => mc (List.mem_of_mem_take z)⟩
    | bor d => obtain ⟨c, ys, es, e1, e2, hc, rc, nc, mc⟩ := bw; exact ⟨c, ys, es, e1, e2, hc, rc, nc, fun z => mc (List.mem_of_mem_take z)⟩
    | sc d => obtain ⟨c, ys, es, e1, e2, hc, rc⟩ := bw; exact ⟨c, ys, es, e1, e2, hc.to fun o h mc => ⟨h, fun z => mc (List.mem_of_mem_take z)⟩, rc⟩
    | r k =>
      obtain ⟨c, e1, e3⟩ := bw
      have l : k < n := Decidable.byContradiction fun l => by
        have e2 : (if k < n then some (B.r k) else none) = some (B.r k) := e2
        rw [if_neg l] at e2; cases e2
      exact ⟨c, e1, by rw [List.getElem?_take_of_lt l]; exact e3⟩
  · refine s.er.sep j k d1 d2 a1 nn (gs j _ e1).1 ?_ e3
    rcases e2 with e2 | e2
    · exact .inl (gs k _ e2).1
    · exact .inr (gs k _ e2).1
  · obtain ⟨ν, e, hν⟩ := s.pre
    refine ⟨ν.take (n - μ0.length), ?_, fun a ha => hν a (List.mem_of_mem_take ha)⟩
    rw [e, List.take_append, List.take_of_length_le hn]
theorem SR.base (s : SR K F0 μ0 H0 F μ S H ρ σ) : SR K F μ0 H0 F μ S H ρ σ := ⟨s.rel, s.er, ⟨fun _ _ h => h, fun _ _ => rfl, s.ext.keep, s.ext.live⟩, s.pre, s.own⟩
theorem Ext.unbase (x : Ext μ0 F0 H0 F H) {F' H' : Hp} (y : Ext μ0 F H0 F' H') : Ext μ0 F0 H0 F' H' := ⟨fun a o h => y.fs a o (x.fs a o h), fun a h => (y.fn a h).trans (x.fn a h), y.keep, y.live⟩
theorem SR.unbase (x : Ext μ0 F0 H0 F H) {F' H' : Hp} {μ' : List Addr} {S' : Store} {ρ' : Env} {σ' : L2.St} (s : SR K F μ0 H0 F' μ' S' H' ρ' σ') : SR K F0 μ0 H0 F' μ' S' H' ρ' σ' := ⟨s.rel, s.er, x.unbase s.ext, s.pre, s.own⟩
theorem okSt_base (x : Ext μ0 F0 H0 F H) {r : RS} (h : okSt K xc F0 μ0 H0 W D r) : okSt K xc F μ0 H0 W D r := by
  cases r with
  | nx ρ' S' => exact fun F' μ' H' σ' s => h F' μ' H' σ' (s.unbase x)
  | bk ρ' S' => exact fun F' μ' H' σ' s => h F' μ' H' σ' (s.unbase x)
  | ct ρ' S' => exact fun F' μ' H' σ' s => h F' μ' H' σ' (s.unbase x)
  | rt b S' => exact fun F' μ' H' v r e p bv fr hb => h F' μ' H' v r (x.unbase e) p bv fr hb
  | ro es w S' => exact fun F' μ' H' v r e p bv => h F' μ' H' v r (x.unbase e) p bv
  | ex c p ρ' S' => exact fun F' μ' H' σ' cls d s xr => h F' μ' H' σ' cls d (s.unbase x) xr
  | bad => exact h
theorem frzs_seens : ∀ {bs : List B} {ds : List Zw.D}, frzs bs = some ds → seens bs = some ds
  | [], _, h => h
  | b :: r, ds, h => by
    unfold frzs at h
    cases q : b.frz with
    | none => rw [q] at h; cases h
    | some d =>
      rw [q] at h
      cases q2 : frzs r with
      | none => rw [q2] at h; cases h
      | some ds' =>
        rw [q2] at h
        cases h
        have e : b.seen = some d := by
          cases b with
          | t _ => exact q
          | own _ => exact q
          | _ => cases q
        show (b.seen.bind fun d => (seens r).map (d :: ·)) = _
        rw [e, frzs_seens q2]
        rfl
theorem s_for {tg iter : Expr} {body : List Stmt} {pos : Pos} {cs : Bool} {kind : Nat} {its : List CE} {t : Tg} {cb : List CS} (hp : PassesOwn (model X.prog X.w) X.A X.env X.xe) (hc : X.calm = true) (hi : PI X tg iter (tMI X.K xc W (wkM G kind its))) (hg : PG X tg (gOf X.K t))
    (hb : PSs X body (tMS X.K xc W (execs G cb))) (hs : ∀ x, foldedSetIterable iter X.env x = pure x) : PS X (.For tg iter body [] pos) (tMS X.K xc W (exec G (.for_ cs kind its t cb))) :=
  PS.weak (ps_for hp hc hi hg hb hs) fun D σ H ⟨F0, μ0, H0, F, μ, S, ρ, s, h⟩ => by
    rw [exec] at h
    refine ⟨F, μ, S, ρ, s.rel, s.er, ?_⟩
    cases q : evl G its ρ S with
    | bad => rw [q] at h; exact h.elim
    | ex c p S1 =>
      rw [q] at h
      rw [show wkM G kind its ρ S = .ex c p S1 by unfold wkM; rw [q]; rfl]
      exact fun F1 H1 cls d e r1 x => h F1 μ H1 σ cls d (s.step e r1) x
    | ok bs S1 =>
      rw [q] at h
      have h : okSt X.K xc F0 μ0 H0 W D (match (frzs bs).bind (walk kind) with
        | none => .bad
        | some xs => forL cs S1.length (fun x ρ s => match bindT t x ρ with
            | none => .bad
            | some ρ => execs G cb ρ s) xs ρ S1) := h
      cases q2 : (frzs bs).bind (walk kind) with
      | none => rw [q2] at h; exact h.elim
      | some xs =>
      rw [q2] at h
      obtain ⟨ds, q3, q4⟩ := Option.bind_eq_some_iff.mp q2
      rw [show wkM G kind its ρ S = .ok (bs, xs) S1 by unfold wkM; rw [q]; simp [R.bind, seenW, frzs_seens q3, q4, R.of]]
      intro F1 H1 J e1 r1 wk
      have s1 := s.step e1 r1
      have wk := wk.2 (by show (frzs bs).isSome = true; rw [q3]; rfl)
      have h := okSt_base s1.ext h
      have hn : μ0.length ≤ S1.length := by
        obtain ⟨ν, e, _⟩ := s.pre
        rw [← r1.len, e]
        simp
      generalize hf : (fun (x : Zw.D) (ρ : Env) (s : Store) => match bindT t x ρ with
            | none => RS.bad
            | some ρ => execs G cb ρ s) = f at h
      refine ⟨fun i m σ' H' => m = xs.length - i ∧ i ≤ xs.length ∧ ∃ F' μ' S' ρ', SR X.K F1 μ0 H0 F' μ' S' H' ρ' σ' ∧ okSt X.K xc F1 μ0 H0 W D (forL cs S1.length f (xs.drop i) ρ' S'),
        ⟨_, rfl, Nat.zero_le _, F1, μ, S1, ρ, s1.base, h⟩, ?_⟩
      rintro i m σ2 H2 ⟨rfl, hi, F2, μ2, S2, ρ2, s2, h2⟩
      by_cases hlt : i < xs.length
      · refine .inr ⟨wk.go i F2 H2 ⟨s2.ext.fs, s2.rel.sub⟩ hlt, fun σ' H' => ∃ F' μ' S' ρ', SR X.K F1 μ0 H0 F' μ' S' H' ρ' σ' ∧ okSt X.K xc F1 μ0 H0 W D (forL cs S1.length f (xs.drop (i + 1)) ρ' S'),
          fun σ' H' p => ⟨xs.length - (i + 1), by omega, rfl, hlt, p⟩, fun x H' y => ?_⟩
        obtain ⟨F2', nw, d, hd, rx⟩ := wk.yld i F2 H2 x H' ⟨s2.ext.fs, s2.rel.sub⟩ y hlt
        replace s2 := s2.step (nw.ext s2.rel.sub) (nw.rel s2.rel)
        have ed : xs.drop i = d :: xs.drop (i + 1) := by
          rw [List.drop_eq_getElem_cons hlt]
          rw [List.getElem?_eq_getElem hlt] at hd
          cases hd
          rfl
        rw [ed, forL] at h2
        cases qb : bindT t d ρ2 with
        | none =>
          rw [show f d ρ2 S2 = .bad by rw [← hf]; simp only [qb]] at h2
          exact h2.elim
        | some ρ' =>
        rw [show f d ρ2 S2 = execs G cb ρ' S2 by rw [← hf]; simp only [qb]] at h2
        refine s2.bind qb rx fun σ' s' => ⟨F1, μ0, H0, F2', μ2, S2, ρ', s', ?_⟩
        have cutOk : ∀ (ρ3 : Env) (S3 : Store), okSt X.K xc F1 μ0 H0 W D (cutAt cs S1.length (forL cs S1.length f (xs.drop (i + 1))) ρ3 S3) → ∀ F3 μ3 H3 σ3, SR X.K F1 μ0 H0 F3 μ3 S3 H3 ρ3 σ3 →
            ∃ F' μ' S' ρ', SR X.K F1 μ0 H0 F' μ' S' H3 ρ' σ3 ∧ okSt X.K xc F1 μ0 H0 W D (forL cs S1.length f (xs.drop (i + 1)) ρ' S') := fun ρ3 S3 h3 F3 μ3 H3 σ3 s3 => by
          unfold cutAt at h3
          cases hcs : cs with
          | true =>
            rw [hcs] at h3
            exact ⟨F3, _, _, _, s3.cut hn, h3⟩
          | false =>
            rw [hcs] at h3
            exact ⟨F3, _, _, _, s3, h3⟩
        cases qe : execs G cb ρ' S2 with
        | nx ρ3 S3 => rw [qe] at h2; exact fun F3 μ3 H3 σ3 s3 => cutOk ρ3 S3 h2 F3 μ3 H3 σ3 s3
        | ct ρ3 S3 => rw [qe] at h2; exact fun F3 μ3 H3 σ3 s3 => cutOk ρ3 S3 h2 F3 μ3 H3 σ3 s3
        | bk ρ3 S3 => rw [qe] at h2; exact h2
        | rt b S3 => rw [qe] at h2; exact h2
        | ro es w S3 => rw [qe] at h2; exact h2
        | ex c p ρ3 S3 => rw [qe] at h2; exact h2
        | bad => rw [qe] at h2; exact h2.elim
      · have e : i = xs.length := by omega
        subst e
        rw [List.drop_length, forL] at h2
        exact .inl ⟨wk.stop F2 H2 ⟨s2.ext.fs, s2.rel.sub⟩, h2 F2 μ2 H2 σ2 s2⟩
theorem s_while {c : Expr} {body : List Stmt} {pos : Pos} {cc : CE} {cb : List CS} (hp : PassesOwn (model X.prog X.w) X.A X.env X.xe) (hc : PT X c (tMT X.K xc W (evT G cc))) (hb : PSs X body (tMS X.K xc W (execs G cb))) :
    PS X (.While c body [] pos) (tMS X.K xc W (exec G (.while_ cc cb))) :=
  PS.weak (ps_while hp hc hb) fun D σ H ⟨F0, μ0, H0, F, μ, S, ρ, s, h⟩ => by
    rw [exec] at h
    refine ⟨fun m σ' H' => ∃ F' μ' S' ρ', SR X.K F0 μ0 H0 F' μ' S' H' ρ' σ' ∧ okSt X.K xc F0 μ0 H0 W D (whileL (evT G cc) (execs G cb) m ρ' S'), ⟨steps, F, μ, S, ρ, s, h⟩, ?_⟩
    rintro m σ1 H1 ⟨F1, μ1, S1, ρ1, s1, h1⟩
    cases m with
    | zero => rw [whileL] at h1; exact h1.elim
    | succ m =>
      rw [whileL] at h1
      refine ⟨F1, μ1, S1, ρ1, s1.rel, s1.er, toT s1 h1 fun F2 H2 k S2 s2 h2 => ?_⟩
      cases k with
      | false => exact h2 F2 μ1 H2 σ1 s2
      | true =>
        rw [if_pos rfl] at h2 ⊢
        refine ⟨fun σ' H' => ∃ F' μ' S' ρ', SR X.K F0 μ0 H0 F' μ' S' H' ρ' σ' ∧ okSt X.K xc F0 μ0 H0 W D (whileL (evT G cc) (execs G cb) m ρ' S'), fun σ' H' p => ⟨m, Nat.lt_succ_self m, p⟩, F0, μ0, H0, F2, μ1, S2, ρ1, s2, ?_⟩
        cases qe : execs G cb ρ1 S2 with
        | nx ρ3 S3 => rw [qe] at h2; exact fun F3 μ3 H3 σ3 s3 => ⟨F3, μ3, S3, ρ3, s3, h2⟩
        | ct ρ3 S3 => rw [qe] at h2; exact fun F3 μ3 H3 σ3 s3 => ⟨F3, μ3, S3, ρ3, s3, h2⟩
        | bk ρ3 S3 => rw [qe] at h2; exact h2
        | rt b S3 => rw [qe] at h2; exact h2
        | ro es w S3 => rw [qe] at h2; exact h2
        | ex c p ρ3 S3 => rw [qe] at h2; exact h2
        | bad => rw [qe] at h2; exact h2.elim
end
end Zw
set_option Elab.async false
set_option linter.all false
set_option maxRecDepth 100000
/-! Zw9: statements, third part: several names at once, augmented stores, changes of lists. -/
namespace Zw
open PySem PySem.Spec PyProof.Rows L2
section
variable {X : Cx} {K : PySem.W.Frag} {xc : Nat → Option XCls} {W : WX} {F0 F H0 H F1 H1 : Hp} {μ0 μ : List Addr} {S S1 : Store} {σ : L2.St} {ρ : Env} {G : Gx} {D : Ends}
/-! ### a, b = x, y -/
def FrL : Hp → List V → List B → Prop
  | _, [], [] => True
  | H, v :: vs, b :: bs => Fresh H v b ∧ ∃ H1 : Hp, (∀ a, ¬ Gone H a → ¬ Gone H1 a) ∧ (∀ (d : Zw.D) (a : Addr), b = .own d → v = .ref a → ¬ Gone H1 a) ∧ FrL H1 vs bs
  | _, _, _ => False
def okG (K : PySem.W.Frag) (xc : Nat → Option XCls) (μ : List Addr) (W : WX) (F H : Hp) (σ : L2.St) (r : R (List B)) (Q : List V → Hp → Prop) : Prop := match r with
  | .ok bs S' => ∀ F' H' vs, Ext μ F H F' H' → Rel K F' μ S' H' → BRs K F' μ H' vs bs → FrL H vs bs → Q vs H'
  | .ex c p S' => ∀ F' H' cls d, Ext μ F H F' H' → Rel K F' μ S' H' → XR K xc F' H' c p cls d → W cls d σ H'
  | .bad => False
def tMG (K : PySem.W.Frag) (xc : Nat → Option XCls) (W : WX) (m : Env → Store → R (List B)) : TA := fun σ H Q =>
  ∃ F μ S ρ, Rel K F μ S H ∧ ER K F μ H ρ σ ∧ okG K xc μ W F H σ (m ρ S) Q
theorem g_nil : PA X [] (tMG X.K xc W (evg G [])) := PA.weak pa_nil fun σ H Q ⟨F, μ, S, ρ, rel, er, h⟩ => h F H [] (Ext.refl _ _ _) rel .nil trivial
theorem g_cons {e : Expr} {es : List Expr} {c : CE} {cs : List CE} (he : PE X e (tM X.K xc W (ev G c))) (hes : PA X es (tMG X.K xc W (evg G cs))) (hs : notStar e = true) : PA X (e :: es) (tMG X.K xc W (evg G (c :: cs))) := by
  refine PA.weak (pa_cons he hes (starEach_plain hs)) fun σ H Q ⟨F, μ, S, ρ, rel, er, h⟩ => ⟨F, μ, S, ρ, rel, er, ?_⟩
  rw [show evg G (c :: cs) ρ S = (ev G c ρ S).bind fun x s => (evg G cs ρ s).bind fun xs s => .ok (x :: xs) s from rfl] at h
  cases q : ev G c ρ S with
  | bad => rw [q] at h; exact h.elim
  | ex c p S1 => rw [q] at h; exact h
  | ok b S1 =>
    rw [q] at h
    intro F1 H1 v e1 r1 bv fr
    refine ⟨F1, μ, S1, ρ, r1, er.step e1, ?_⟩
    have h : okG X.K xc μ W F H σ ((evg G cs ρ S1).bind fun xs s => .ok (b :: xs) s) Q := h
    cases q2 : evg G cs ρ S1 with
    | bad => rw [q2] at h; exact h.elim
    | ex c p S2 => rw [q2] at h; exact fun F2 H2 cls d e2 r2 x => h F2 H2 cls d (e1.trans e2) r2 x
    | ok bs S2 =>
      rw [q2] at h
      intro F2 H2 vs e2 r2 bvs frs
      refine h F2 H2 (v :: vs) (e1.trans e2) r2 (.cons (bv.step e2) bvs) ⟨fr, H1, e1.live, fun d a eb ea => ?_, frs⟩
      subst eb
      obtain ⟨c, xs, ds, ev, _, hc, _⟩ := bv
      rw [ea] at ev
      cases ev
      exact lvL hc
theorem toG {r : R (List B)} {g : List B → Store → RS} {Q : List V → Hp → Prop} (s : SR K F0 μ0 H0 F μ S H ρ σ) (h : okSt K xc F0 μ0 H0 W D (r.to ρ g))
    (k : ∀ F1 H1 vs bs S1, SR K F0 μ0 H0 F1 μ S1 H1 ρ σ → BRs K F1 μ H1 vs bs → FrL H vs bs → okSt K xc F0 μ0 H0 W D (g bs S1) → Q vs H1) : okG K xc μ W F H σ r Q := by
  cases r with
  | ok b S1 => exact fun F1 H1 v e r1 bv fr => k F1 H1 v b S1 (s.step e r1) bv fr h
  | ex c p S1 => exact fun F1 H1 cls d e r1 x => h F1 μ H1 σ cls d (s.step e r1) x
  | bad => exact h
def setV : List Nat → List V → L2.St → L2.St
  | i :: is, v :: vs, σ => setV is vs (σ.set i (some v))
  | _, _, σ => σ
theorem gives_some : ∀ {bs bs' : List B}, gives bs = some bs' → bs' = bs ∧ ∀ b ∈ bs, b.give = some b
  | [], _, h => by cases h; exact ⟨rfl, fun _ z => by simp at z⟩
  | b :: r, bs', h => by
    unfold gives at h
    cases q : b.give with
    | none => rw [q] at h; cases h
    | some c =>
      rw [q] at h
      cases q2 : gives r with
      | none => rw [q2] at h; cases h
      | some r' =>
        rw [q2] at h
        cases h
        obtain ⟨rfl, hb⟩ := give_eq q
        obtain ⟨rfl, hr⟩ := gives_some q2
        exact ⟨rfl, fun b hb' => (List.mem_cons.mp hb').elim (fun e => by rw [e]; exact hb) (hr b)⟩
theorem setAll_ok : ∀ {is : List Nat} {bs : List B} {vs : List V} {ρ : Env} {σ : L2.St} {Hm : Hp}, SR K F0 μ0 H0 F μ S H ρ σ → BRs K F μ H vs bs → FrL Hm vs bs → (∀ b ∈ bs, b.give = some b) → (∀ a, ¬ Gone H0 a → ¬ Gone Hm a) →
    (∀ (j : Nat) (d : Zw.D) (a : Addr), (ρ[j]? = some (some (B.own d)) ∨ ρ[j]? = some (some (B.bor d))) → σ[j]? = some (some (V.ref a)) → ¬ Gone Hm a) → SR K F0 μ0 H0 F μ S H (setAll is bs ρ) (setV is vs σ)
  | [], _, _, _, _, _, s, _, _, _, _, _ => by unfold setAll setV; exact s
  | i :: is, [], _, _, _, _, s, .nil, _, _, _, _ => by unfold setAll setV; exact s
  | i :: is, b :: bs, v :: vs, ρ, σ, Hm, s, .cons bv bvs, fr, hb, h0, hl => by
    obtain ⟨fr1, H1, l1, l2, fr2⟩ := fr
    have hb1 := hb b List.mem_cons_self
    have fresh : ∀ (d : Zw.D) (a : Addr), b = .own d → v = .ref a → Gone H0 a ∧ ∀ (j : Nat) (d' : Zw.D), (ρ[j]? = some (some (B.own d')) ∨ ρ[j]? = some (some (B.bor d'))) → σ[j]? ≠ some (some (V.ref a)) := fun d a e1 e2 => by
      subst e1
      have hn : Gone Hm a := fr1 a e2
      exact ⟨Classical.byContradiction fun z => h0 a z hn, fun j d' e3 e4 => hl j d' a e3 e4 hn⟩
    have s1 := s.setB (i := i) bv hb1 fresh
    refine setAll_ok (is := is) s1 bvs fr2 (fun b hb' => hb b (List.mem_cons_of_mem _ hb')) (fun a ha => l1 a (h0 a ha)) fun j d a e1 e2 => ?_
    by_cases q : j = i
    · subst q
      by_cases l : j < ρ.length
      · rw [List.getElem?_set_self l] at e1
        rw [List.getElem?_set_self (by rw [← s.er.len]; exact l)] at e2
        cases e2
        rcases e1 with e1 | e1
        · cases e1
          exact l2 d a rfl rfl
        · cases e1
          cases hb1
      · rw [List.getElem?_eq_none (by simpa using l)] at e1
        rcases e1 with e1 | e1 <;> cases e1
    · rw [List.getElem?_set_ne (Ne.symm q)] at e1 e2
      exact l1 a (hl j d a e1 e2)
theorem par_rd {is : List Nat} {cs : List CE} {Q : List V → Hp → Prop} (h : tMS K xc W (exec G (.par is cs)) D σ H) (k : ∀ vs H1, vs.length = is.length → D.nx (setV is vs σ) H1 → Q vs H1) : tMG K xc W (evg G cs) σ H Q := by
  obtain ⟨F0, μ0, H0, F, μ, S, ρ, s, h⟩ := h
  rw [exec] at h
  refine ⟨F, μ, S, ρ, s.rel, s.er, toG s h fun F1 H1 vs bs S1 s1 bvs fr h1 => ?_⟩
  cases q : gives bs with
  | none => rw [q] at h1; exact h1.elim
  | some bs' =>
    rw [q] at h1
    obtain ⟨rfl, hb⟩ := gives_some q
    have h1 : okSt K xc F0 μ0 H0 W D (if bs'.length = is.length then .nx (setAll is bs' ρ) S1 else .bad) := h1
    by_cases l : bs'.length = is.length
    · rw [if_pos l] at h1
      exact k vs H1 (bvs.length.trans l) (h1 F1 μ H1 _ (setAll_ok s1 bvs fr hb s.ext.live fun j d a e1 e2 => s.er.live e1 e2))
    · rw [if_neg l] at h1; exact h1.elim
theorem s_par2 {i j : Nat} {x y : Str} {a b : Expr} {ca cb : CE} {px py pt pos : Pos} {kt k2 pt2} (hc : X.calm = true) (hN : X.N.Nodup) (hi : X.N[i]? = some x) (hj : X.N[j]? = some y) (hij : i ≠ j)
    (hx : X.env.scope.names.lookup x = some .local) (hy : X.env.scope.names.lookup y = some .local) (ha : PA X [a, b] (tMG X.K xc W (evg G [ca, cb])))
    (hw : swappedStores [.Tuple [.Name x px, .Name y py] kt pt] (.Tuple [a, b] k2 pt2) X.env = pure (some [x, y]))
    (hs : swapsWithSole [.Tuple [.Name x px, .Name y py] kt pt] (.Tuple [a, b] k2 pt2) pos.line X.env = pure false) :
    PS X (.Assign [.Tuple [.Name x px, .Name y py] kt pt] (.Tuple [a, b] k2 pt2) pos) (tMS X.K xc W (exec G (.par [i, j] [ca, cb]))) :=
  PS.weak (ps_par hc hN hi hj hij hx hy ha hw hs) fun D σ H h => par_rd h fun vs H1 l hn => by
    match vs, l with
    | [v, w], _ => exact ⟨v, w, rfl, hn⟩
theorem s_par3 {i j l : Nat} {x y z : Str} {a b c : Expr} {ca cb cc : CE} {px py pz pt pos : Pos} {kt k2 pt2} (hc : X.calm = true) (hN : X.N.Nodup) (hi : X.N[i]? = some x) (hj : X.N[j]? = some y) (hl : X.N[l]? = some z) (hij : i ≠ j) (hil : i ≠ l) (hjl : j ≠ l)
    (hx : X.env.scope.names.lookup x = some .local) (hy : X.env.scope.names.lookup y = some .local) (hz : X.env.scope.names.lookup z = some .local) (ha : PA X [a, b, c] (tMG X.K xc W (evg G [ca, cb, cc])))
    (hw : swappedStores [.Tuple [.Name x px, .Name y py, .Name z pz] kt pt] (.Tuple [a, b, c] k2 pt2) X.env = pure (some [x, y, z]))
    (hs : swapsWithSole [.Tuple [.Name x px, .Name y py, .Name z pz] kt pt] (.Tuple [a, b, c] k2 pt2) pos.line X.env = pure false) :
    PS X (.Assign [.Tuple [.Name x px, .Name y py, .Name z pz] kt pt] (.Tuple [a, b, c] k2 pt2) pos) (tMS X.K xc W (exec G (.par [i, j, l] [ca, cb, cc]))) :=
  PS.weak (ps_par3 hc hN hi hj hl hij hil hjl hx hy hz ha hw hs) fun D σ H h => par_rd h fun vs H1 l hn => by
    match vs, l with
    | [u, v, w], _ => exact ⟨u, v, w, rfl, hn⟩
/-! ### x op= e -/
def augOk : Op2 → Bool
  | .add => true
  | .sub => true
  | _ => false
theorem s_aug {i : Nat} {x : Str} {e : Expr} {c : CE} {op : Op2} {pos pos' : Pos} (hop : augOk op = true) (hN : X.N.Nodup) (hi : X.N[i]? = some x) (hx : Loc X.env.scope x) (he : PE X e (tM X.K xc W (ev G c))) (hf : X.fn x = true ∨ X.env.scope.names.lookup x = some .local) :
    PS X (.AugAssign (.Name x pos') (opOf op) e pos) (tMS X.K xc W (exec G (.aug i op c))) := by
  have main : ∀ (f : Int → Int → Int) (g : Int → Int → Zw.D), PIp X (opOf op) (ipI f) → (∀ a b z, op2 op a b = some (.t (.int z)) → ∃ m n, a = .int m ∧ b = .int n ∧ z = f m n) → PS X (.AugAssign (.Name x pos') (opOf op) e pos) (tMS X.K xc W (exec G (.aug i op c))) := by
    intro f _ hp ho
    refine PS.weak (ps_aug hN hi hx he hp hf) fun D σ H ⟨F0, μ0, H0, F, μ, S, ρ, s, h⟩ => ?_
    rw [exec] at h
    cases q : ρ[i]? with
    | none => rw [q] at h; exact h.elim
    | some o => cases o with
      | none => rw [q] at h; exact h.elim
      | some b => cases b with
        | t d =>
          rw [q] at h
          obtain ⟨v, h1, h2⟩ := s.er.val i _ q
          refine ⟨v, h1, F, μ, S, ρ, s.rel, s.er, toE (g := fun y s => match (y.peek s).bind (op2 op d) with
            | some (.t (.int z)) => .nx (ρ.set i (some (.t (.int z)))) s
            | _ => .bad) s h fun F1 H1 y bY S1 e1 s1 bv fr h3 => ?_⟩
          cases q2 : (bY.peek S1).bind (op2 op d) with
          | none => simp only [q2] at h3; exact h3.elim
          | some z =>
            cases z with
            | t z => cases z with
              | int z =>
                simp only [q2] at h3
                obtain ⟨d2, p2, p3⟩ := Option.bind_eq_some_iff.mp q2
                obtain ⟨m, n, rfl, rfl, rfl⟩ := ho _ _ _ p3
                refine ⟨m, n, rp_int h2, lk_int s1.rel bv (look_of_peek p2), ?_⟩
                exact h3 F1 μ H1 _ (s1.setB (b := .t (.int _)) (.int _) rfl fun _ _ z => by cases z)
              | _ => simp only [q2] at h3; exact h3.elim
            | _ => simp only [q2] at h3; exact h3.elim
        | _ => rw [q] at h; exact h.elim
  cases op with
  | add =>
    refine main (fun a b => a + b) (fun a b => .int 0) ip_add fun a b z h => ?_
    have h : opAdd a b = some (.t (.int z)) := h
    unfold opAdd at h
    split at h
    · cases h; exact ⟨_, _, rfl, rfl, rfl⟩
    · split at h <;> cases h
    · split at h <;> cases h
    · split at h <;> cases h
    · cases h
  | sub =>
    refine main (fun a b => a - b) (fun a b => .int 0) ip_sub fun a b z h => ?_
    have h : opSub a b = some (.t (.int z)) := h
    unfold opSub at h
    split at h
    · cases h; exact ⟨_, _, rfl, rfl, rfl⟩
    · cases h
  | _ => cases hop
/-! ### changes of lists -/
theorem SR.updOwn (s : SR K F0 μ0 H0 F μ S H ρ σ) {i : Nat} {a : Addr} {xs ys : List Zw.D} {vs : List V} (hi : ρ[i]? = some (some (.own (.lst xs)))) (h1 : σ[i]? = some (some (V.ref a))) (r : RpL K F vs ys) :
    SR K F0 μ0 H0 F μ S (upd H a (.lst vs)) (ρ.set i (some (.own (.lst ys)))) σ := by
  obtain ⟨v, h1', c, vs0, ds, e1, e2, ha, rs, n, m⟩ := s.er.val i _ hi
  rw [h1] at h1'
  cases h1'
  cases e1
  cases e2
  have h0 := s.own i _ a hi h1
  have gs : ∀ (j : Nat) (c : B), (ρ.set i (some (B.own (.lst ys))))[j]? = some (some c) → (j = i ∧ c = .own (.lst ys)) ∨ (j ≠ i ∧ ρ[j]? = some (some c)) := fun j c e => by
    by_cases q : j = i
    · subst q
      rw [List.getElem?_set_self (List.getElem?_eq_some_iff.mp hi).1] at e
      cases e
      exact .inl ⟨rfl, rfl⟩
    · rw [List.getElem?_set_ne (Ne.symm q)] at e
      exact .inr ⟨q, e⟩
  refine ⟨s.rel.put n m (isLst ha), ⟨by rw [List.length_set]; exact s.er.len, fun j c e => ?_, fun j k d1 d2 a1 nn e1 e2 e3 => ?_⟩, s.ext.put h0 nt_lst, s.pre, fun j d a1 e1 e2 => ?_⟩
  · rcases gs j c e with ⟨q, e2⟩ | ⟨q, e2⟩
    · subst q e2
      exact ⟨_, h1, a, vs, ys, rfl, rfl, upd_same, r, n, m⟩
    · obtain ⟨w, hw, bw⟩ := s.er.val j c e2
      refine ⟨w, hw, ?_⟩
      have own' : ∀ (d : Zw.D), (ρ[j]? = some (some (B.own d)) ∨ ρ[j]? = some (some (B.bor d))) → OwnAt K F μ H w d → OwnAt K F μ (upd H a (.lst vs)) w d := fun d ej ⟨c, zs, es, e1, e2, hc, rc, nc, mc⟩ => by
        have qa : c ≠ a := fun z => by
          subst e1 z
          exact s.er.sep i j _ d c (Ne.symm q) hi ej h1 hw
        exact ⟨c, zs, es, e1, e2, by rw [upd_ne qa]; exact hc, rc, nc, mc⟩
      cases c with
      | t d => exact bw
      | own d => exact own' d (.inl e2) bw
      | bor d => exact own' d (.inr e2) bw
      | sc d =>
        obtain ⟨c, zs, es, e1, e2, hc, rc⟩ := bw
        refine ⟨c, zs, es, e1, e2, hc.to fun o h mc => ⟨?_, mc⟩, rc⟩
        have qa : c ≠ a := fun z => by rw [z, ha] at h; cases h
        rw [upd_ne qa]; exact h
      | r k => exact bw
  · have old : ∀ (j : Nat) (d : Zw.D), (ρ.set i (some (B.own (.lst ys))))[j]? = some (some (.own d)) → ∃ d', ρ[j]? = some (some (B.own d')) := fun j d e => by
      rcases gs j _ e with ⟨q, _⟩ | ⟨_, e⟩
      · exact ⟨_, by rw [q]; exact hi⟩
      · exact ⟨d, e⟩
    obtain ⟨d1', e1⟩ := old j d1 e1
    rcases e2 with e2 | e2
    · obtain ⟨d2', e2⟩ := old k d2 e2
      exact s.er.sep j k d1' d2' a1 nn e1 (.inl e2) e3
    · rcases gs k _ e2 with ⟨_, z⟩ | ⟨_, e2⟩
      · cases z
      · exact s.er.sep j k d1' d2 a1 nn e1 (.inr e2) e3
  · rcases gs j _ e1 with ⟨q, _⟩ | ⟨_, e1⟩
    · rw [q, h1] at e2; cases e2; exact h0
    · exact s.own j d a1 e1 e2
theorem SR.updRef (s : SR K F0 μ0 H0 F μ S H ρ σ) {k : Nat} {a : Addr} {ys zs0 : List Zw.D} {vs : List V} (hk : μ[k]? = some a) (hS : S[k]? = some (.lst zs0)) (r : RpL K F vs ys) : SR K F0 μ0 H0 F μ (S.set k (.lst ys)) (upd H a (.lst vs)) ρ σ := by
  have ha : a ∈ μ := List.mem_of_getElem? hk
  have lk : k < S.length := by rw [← s.rel.len]; exact (List.getElem?_eq_some_iff.mp hk).1
  obtain ⟨vs0, h0a, _⟩ := s.rel.obj k a _ hk hS
  refine ⟨⟨fun b o e => ?_, by rw [List.length_set]; exact s.rel.len, s.rel.nd, fun j b zs e1 e2 => ?_, s.rel.dis, s.rel.ft, tabs_lst s.rel.tab h0a, fun j b x fs e1 e2 => ?_⟩, ⟨s.er.len, fun j c e => ?_, s.er.sep⟩, ⟨s.ext.fs, s.ext.fn, fun b o e n m => ?_, fun b e => ?_⟩, s.pre, s.own⟩
  · have q : b ≠ a := fun z => by rw [z, s.rel.dis a ha] at e; cases e
    rw [upd_ne q]; exact s.rel.sub b o e
  · by_cases q : j = k
    · subst q
      rw [hk] at e1
      cases e1
      rw [List.getElem?_set_self lk] at e2
      cases e2
      exact ⟨vs, upd_same, r⟩
    · rw [List.getElem?_set_ne (Ne.symm q)] at e2
      obtain ⟨ws, h1, h2⟩ := s.rel.obj j b zs e1 e2
      have qa : b ≠ a := fun z => by
        subst z
        obtain ⟨l1, q1⟩ := List.getElem?_eq_some_iff.mp e1
        obtain ⟨l2, q2⟩ := List.getElem?_eq_some_iff.mp hk
        exact q ((List.getElem_inj s.rel.nd).mp (q1.trans q2.symm))
      exact ⟨ws, by rw [upd_ne qa]; exact h1, h2⟩
  · by_cases q : j = k
    · subst q
      rw [List.getElem?_set_self lk] at e2
      cases e2
    · rw [List.getElem?_set_ne (Ne.symm q)] at e2
      refine (s.rel.ob2 j b x fs e1 e2).to (fun _ _ h => h) (fun _ _ h => h) fun o _ h => ?_
      rw [upd_ne]
      · exact h
      · intro z
        subst z
        obtain ⟨l1, q1⟩ := List.getElem?_eq_some_iff.mp e1
        obtain ⟨l2, q2⟩ := List.getElem?_eq_some_iff.mp hk
        exact q ((List.getElem_inj s.rel.nd).mp (q1.trans q2.symm))
  · obtain ⟨w, hw, bw⟩ := s.er.val j c e
    refine ⟨w, hw, ?_⟩
    have own' : ∀ (d : Zw.D), OwnAt K F μ H w d → OwnAt K F μ (upd H a (.lst vs)) w d := fun d ⟨c, zs, es, e1, e2, hc, rc, nc, mc⟩ =>
      ⟨c, zs, es, e1, e2, by rw [upd_ne (fun z => mc (by rw [z]; exact ha))]; exact hc, rc, nc, mc⟩
    cases c with
    | t d => exact bw
    | own d => exact own' d bw
    | bor d => exact own' d bw
    | sc d =>
      obtain ⟨c, zs, es, e1, e2, hc, rc⟩ := bw
      exact ⟨c, zs, es, e1, e2, hc.to fun o h mc => ⟨by rw [upd_ne (fun z => mc (by rw [z]; exact ha))]; exact h, mc⟩, rc⟩
    | r k => exact bw
  · by_cases q : b = a
    · subst q
      obtain ⟨ν, e1, hν⟩ := s.pre
      rw [e1] at ha
      rcases List.mem_append.mp ha with ha | ha
      · exact absurd ha m
      · exact (hν b ha o e n).elim
    · rw [upd_ne q]; exact s.ext.keep b o e n m
  · exact gone_upd (s.ext.live b e) nt_lst
theorem lst_ok {i : Nat} {xs : List Zw.D} (s : SR K F0 μ0 H0 F μ S H ρ σ) (h : lstAt i ρ S = some xs) : ∃ a vs, σ[i]? = some (some (V.ref a)) ∧ H a = some (.lst vs) ∧ RpL K F vs xs ∧
    ∀ ys vs', RpL K F vs' ys → okSt K xc F0 μ0 H0 W D (lstPut i ys ρ S) → D.nx σ (upd H a (.lst vs')) := by
  unfold lstAt at h
  cases q : ρ[i]? with
  | none => rw [q] at h; cases h
  | some o => cases o with
    | none => rw [q] at h; cases h
    | some b => cases b with
      | own d => cases d with
        | lst ds =>
          rw [q] at h
          cases h
          obtain ⟨v, h1, a, vs, ds, e1, e2, ha, rs, n, m⟩ := s.er.val i _ q
          cases e1
          cases e2
          refine ⟨a, vs, h1, ha, rs, fun ys vs' r h => ?_⟩
          unfold lstPut at h
          rw [q] at h
          exact h F μ _ σ (s.updOwn q h1 r)
        | _ => rw [q] at h; cases h
      | r k =>
        rw [q] at h
        obtain ⟨v, h1, a, e1, hk⟩ := s.er.val i _ q
        subst e1
        have h : (match S[k]? with | some (.lst xs) => some xs | _ => none) = some xs := h
        cases q2 : S[k]? with
        | none => rw [q2] at h; cases h
        | some o => cases o with
          | lst zs =>
            rw [q2] at h
            cases h
            obtain ⟨vs, h2, h3⟩ := s.rel.obj k a _ hk q2
            refine ⟨a, vs, h1, h2, h3, fun ys vs' r h => ?_⟩
            unfold lstPut at h
            rw [q] at h
            exact h F μ _ σ (s.updRef hk q2 r)
          | obj _ _ => rw [q2] at h; cases h
      | _ => rw [q] at h; cases h
/-- the list is a list before as well -/
theorem ixN_eq (n : Nat) (i : Int) : L2.ixN n i = ixN n i := rfl
theorem s_setIx {i : Nat} {o e k : Expr} {c ck : CE} {pos p2 : Pos} (ho : PE X o (tVar i)) (hk : PE X k (tM X.K xc W (ev G ck))) (he : PE X e (tM X.K xc W (ev G c))) (hs : swapsWithSole [.Subscript o k p2] e pos.line X.env = pure false)
    (hw : swappedStores [.Subscript o k p2] e X.env = pure none) (h1 : (assignEach [.Subscript o k p2] X.env).map (·.2) = [assign (.Subscript o k p2) X.env])
    (ha : ∀ v, assign (.Subscript o k p2) X.env v = (do
      let ov ← holding [v] (eval o X.env)
      let iv ← holding [v, ov] (eval k X.env)
      standAt p2
      holding [v, ov, iv] (setItem ov iv v)
      release [v, ov, iv] [])) : PS X (.Assign [.Subscript o k p2] e pos) (tMS X.K xc W (exec G (.setIx i ck c))) :=
  PS.weak (ps_asg he (pg_sub ho hk set_list ha) hs hw h1) fun D σ H ⟨F0, μ0, H0, F, μ, S, ρ, s, h⟩ => by
    refine ⟨F, μ, S, ρ, s.rel, s.er, toEs s (by rw [exec] at h; exact h) fun F1 H1 v b S1 e1 s1 bv h1 => ?_⟩
    cases q : b.frz with
    | none => rw [q] at h1; exact h1.elim
    | some d =>
    rw [q] at h1
    cases q2 : lstAt i ρ S1 with
    | none => rw [q2] at h1; exact h1.elim
    | some xs =>
    rw [q2] at h1
    obtain ⟨a, vs, hσ, _⟩ := lst_ok (xc := xc) (W := W) (D := D) s1 q2
    refine ⟨.ref a, hσ, F1, μ, S1, ρ, s1.rel, s1.er, toE s1 h1 fun F2 H2 w bw S2 e2 s2 bwv fr h2 => ?_⟩
    cases q3 : lstAt i ρ S2 with
    | none => rw [q3] at h2; split at h2 <;> first | exact h2.elim | (rename_i z; cases z)
    | some ys =>
    rw [q3] at h2
    split at h2
    · rename_i n zs ez
      cases ez
      cases q4 : ixN ys.length n with
      | none => rw [q4] at h2; exact h2.elim
      | some j =>
        rw [q4] at h2
        obtain ⟨a2, vs2, hσ2, ha2, r2, fin⟩ := lst_ok (xc := xc) (W := W) (D := D) s2 q3
        rw [hσ] at hσ2
        cases hσ2
        refine ⟨a, vs2, n, j, rfl, rp_int bwv, ha2, by rw [r2.length]; exact q4, fin _ _ (r2.set ((frz_still q bv).mono e2.fs) j) h2⟩
    · exact h2.elim
theorem s_app {i : Nat} {o e : Expr} {c : CE} {apos cpos pos : Pos} (ho : PE X o (tVar i)) (he : PE X e (tM X.K xc W (ev G c))) (hst : notStar e = true) (hbase : attributeBase o "append" X.env (eval o X.env) = eval o X.env)
    (hline : (apos.endLine == cpos.line) = true) (hfew : ((backTo cpos (starEach [e] X.env)).all (fun x => !x.1) && (backToKw cpos (keywordEach [] X.env)).all (fun x => x.1.isSome)
      && decide ([e].length + ([] : List Keyword).length + (if ([] : List Keyword).isEmpty then 0 else 1) < 30)) = true)
    (hs : swapsWith (.Call (.Attribute o "append" apos) [e] [] cpos) none pos.line X.env = pure false) : PS X (.Expr (.Call (.Attribute o "append" apos) [e] [] cpos) pos) (tMS X.K xc W (exec G (.app i c))) :=
  PS.weak (ps_expr (pe_bm F.plainAttrs_list F.slot_list_append F.type_list_append mt_append ho (pa_cons he pa_nil (starEach_plain hst)) hbase hfew hline (starEach_plain hst) rfl) hs) fun D σ H ⟨F0, μ0, H0, F, μ, S, ρ, s, h⟩ => by
    rw [exec] at h
    cases q0 : lstAt i ρ S with
    | none => rw [q0] at h; exact h.elim
    | some xs0 =>
    rw [q0] at h
    obtain ⟨a, vs, hσ, ha, _⟩ := lst_ok (xc := xc) (W := W) (D := D) s q0
    refine ⟨.ref a, hσ, .inl ⟨rfl, vs, SqL.of ha⟩, F, μ, S, ρ, s.rel, s.er, toEs s h fun F1 H1 v b S1 e1 s1 bv h1 => ?_⟩
    cases q : b.frz with
    | none => rw [q] at h1; exact h1.elim
    | some d =>
    rw [q] at h1
    cases q2 : lstAt i ρ S1 with
    | none => rw [q2] at h1; exact h1.elim
    | some xs =>
    rw [q2] at h1
    obtain ⟨a2, vs2, hσ2, ha2, r2, fin⟩ := lst_ok (xc := xc) (W := W) (D := D) s1 q2
    rw [hσ] at hσ2
    cases hσ2
    have h1 : okSt X.K xc F0 μ0 H0 W D (if xs.length < line then lstPut i (xs ++ [d]) ρ S1 else .bad) := h1
    by_cases l : xs.length < line
    · rw [if_pos l] at h1
      exact ⟨a, vs2, v, rfl, rfl, ha2, by rw [r2.length, ← line_eq]; exact l, fin _ _ (r2.append (.cons (frz_still q bv) .nil)) h1⟩
    · rw [if_neg l] at h1; exact h1.elim
theorem s_ext {i : Nat} {o e : Expr} {c : CE} {apos cpos pos : Pos} (ho : PE X o (tVar i)) (he : PE X e (tM X.K xc W (ev G c))) (hst : notStar e = true) (hbase : attributeBase o "extend" X.env (eval o X.env) = eval o X.env)
    (hline : (apos.endLine == cpos.line) = true) (hfew : ((backTo cpos (starEach [e] X.env)).all (fun x => !x.1) && (backToKw cpos (keywordEach [] X.env)).all (fun x => x.1.isSome)
      && decide ([e].length + ([] : List Keyword).length + (if ([] : List Keyword).isEmpty then 0 else 1) < 30)) = true)
    (hs : swapsWith (.Call (.Attribute o "extend" apos) [e] [] cpos) none pos.line X.env = pure false) : PS X (.Expr (.Call (.Attribute o "extend" apos) [e] [] cpos) pos) (tMS X.K xc W (exec G (.ext i c))) :=
  PS.weak (ps_expr (pe_bm F.plainAttrs_list F.slot_list_extend F.type_list_extend mt_extend ho (pa_cons he pa_nil (starEach_plain hst)) hbase hfew hline (starEach_plain hst) rfl) hs) fun D σ H ⟨F0, μ0, H0, F, μ, S, ρ, s, h⟩ => by
    rw [exec] at h
    cases q0 : lstAt i ρ S with
    | none => rw [q0] at h; exact h.elim
    | some xs0 =>
    rw [q0] at h
    obtain ⟨a, vs, hσ, ha, _⟩ := lst_ok (xc := xc) (W := W) (D := D) s q0
    refine ⟨.ref a, hσ, .inl ⟨rfl, vs, SqL.of ha⟩, F, μ, S, ρ, s.rel, s.er, toE s h fun F1 H1 v b S1 e1 s1 bv fr h1 => ?_⟩
    cases q : b.peek S1 with
    | none => rw [q] at h1; exact h1.elim
    | some d =>
    rw [q] at h1
    cases d with
    | lst ys =>
      cases q2 : lstAt i ρ S1 with
      | none => rw [q2] at h1; exact h1.elim
      | some xs =>
      rw [q2] at h1
      obtain ⟨a2, vs2, hσ2, ha2, r2, fin⟩ := lst_ok (xc := xc) (W := W) (D := D) s1 q2
      rw [hσ] at hσ2
      cases hσ2
      obtain ⟨a3, vs3, e3, ha3, r3⟩ := pk_lst s1.rel bv q
      have h1 : okSt X.K xc F0 μ0 H0 W D (if xs.length + ys.length ≤ line then lstPut i (xs ++ ys) ρ S1 else .bad) := h1
      by_cases l : xs.length + ys.length ≤ line
      · rw [if_pos l] at h1
        exact ⟨a, a3, vs2, vs3, rfl, by rw [e3], ha2, ha3, by rw [r2.length, r3.length, ← line_eq]; exact l, fin _ _ (r2.append r3) h1⟩
      · rw [if_neg l] at h1; exact h1.elim
    | _ => exact h1.elim
end
end Zw
set_option Elab.async false
set_option linter.all false
set_option maxRecDepth 100000
set_option maxHeartbeats 2000000
/-! ZwL: a def that calls the lambda it gets; the guards of repr are kept in sight. -/
namespace Zw
open PySem PySem.Spec PyProof.Rows L2
abbrev lamO (X : Cx) (ps : Arguments) (body : Expr) (sc : Scope) (pm : Value) (co : Addr) (ct : Value) : Obj := PySem.W.kla_obj "<lambda>" (X.env.qual ++ "<lambda>") ps body sc (cloFrom X.env.cells sc.names []) pm co ct
abbrev lamF (X : Cx) (ps : Arguments) (body : Expr) (sc : Scope) (pm : Value) (co : Addr) (ct : Value) : FuncData := PySem.W.kla_fn "<lambda>" (X.env.qual ++ "<lambda>") ps body sc (cloFrom X.env.cells sc.names []) pm (.ref co) ct
section
variable {X : Cx} {pins : List (Addr × Obj)} {σ : L2.St} {H : Hp} {s : Shared}
/-- the call of what was got, in the def Z that got it -/
theorem act_call {EZ : XK} {NZ : List Str} {qz : Str} {sz : Scope} {gz fo co : Addr} {cz pm ct : Value} {ps : Arguments} {body : Expr} {sc : Scope} {k : Nat} {a : Str} {pn : List (Addr × Obj)} {xe : Value → Shared → Prop} {W : WX} {E : XK} {tb : TE} {p1 p2 : Pos}
    (I : Inv X pins σ H s) (L : LamX.LamS X.env.scope sc) (ho : s.heap.get? fo = some (lamO X ps body sc pm co ct)) (hn : H fo = none) (hr : fo ∉ frs X.stack) (hb : bindArgs (lamF X ps body sc pm co ct) ⟨[], []⟩ = pure [])
    (tk : Takes ((cxOf C8.CX0 X.prog X.w X.K X.mg X.base NZ qz sz gz cz X.A X.stack s H EZ).tr pn xe) W) (hW : ∀ cls d σ' H', E cls d H' → W cls d σ' H') (room : Room (k + 1) (X.A.deeper (envOfC qz sz s.heap.objs.size gz cz)))
    (hbody : ∀ (A : Around) (outer : List PySem.Env) (s : Shared) (H : Hp), A.guards = X.A.guards → Room k (A.deeper (LamX.lamEnv X sc s.heap.objs.size fo co)) → PE (LamX.lamCx X A outer s H E sc fo co) body tb)
    (hN : NZ[0]? = some a) (hv : Vis sz a) (hd : (a == ("__debug__" : Str)) = false) (hcd : (a == ("__classdict__" : Str)) = false) :
    PE ((cxOf C8.CX0 X.prog X.w X.K X.mg X.base NZ qz sz gz cz X.A X.stack s H EZ).tr pn xe) (.Call (.Name a p1) [] [] p2)
      (fun σz Hz Q => σz[0]? = some (some (.ref fo)) ∧ Hz co = some (LamX.CodeO co (X.env.qual ++ "<lambda>")) ∧ tb σ Hz Q) := by
  constructor
  intro pz sZ σz Hz Q IZ ⟨h1, h2, h3⟩
  have look := (pe_var (pos := p1) (i := 0) hN hv hd hcd).run pz sZ σz Hz (fun v K1 => v = .ref fo ∧ K1 = Hz) IZ ⟨.ref fo, h1, rfl, rfl⟩
  refine wpAny_Call_Name_kw (thn look ?_)
  rintro u s1 ⟨v, K1, J, rv, e1, e2⟩
  subst e1 e2
  obtain rfl : u = Value.ref fo := rv
  have at1 := J.base.keep fo _ ho hn hr (fun z => nomatch (show fo ∈ ([] : List Addr) from z))
  refine PySem.W.callWith_F0 ⟨_, _, _, _, at1⟩ ?_
  obtain ⟨⟨oc, vs, t, c1, c2, c3⟩, _⟩ := J.hok co _ h2
  refine wpAny_call (codeAny_mono (PySem.W.kla_callFunE room.depth at1 rfl L.co L.gen rfl ⟨co, oc, vs, t, rfl, c1, c2, c3⟩ ?_) (R := CR (L2.CX X.prog X.w) (envOfC qz sz s.heap.objs.size gz cz :: X.stack) X.prog X.w K1 s1 Q E) fun r s' hq => ?_)
  · show wpAny _ _ (bindArgs (lamF X ps body sc pm co ct) ⟨[], []⟩) _ _ _
    rw [hb]
    refine wpAny_pure ?_
    refine wpAny_newFunctionEnv (fun y hy => (L.own y hy).2) (fun y hy => absurd hy (by simp)) (fun h2 ns sb => ⟨J.nolimit.fresh _ sb, ?_⟩) L.kind
    refine PySem.W.kla_codeExpr (wpAny_mono ((hbody (X.A.deeper (envOfC qz sz s.heap.objs.size gz cz)) (envOfC qz sz s.heap.objs.size gz cz :: X.stack) s1 K1 rfl (room.deeper _)).run [] _ _ K1 Q ?_ h3) ?_ fun _ _ z => z)
    · refine LamX.lam_start2 I L J.env0 room.hd J.base ns fun b o e => ?_
      exact sb.extBut b o (Nat.ne_of_lt (Heap.lt_size e)) (Heap.get?_push_of_some _ e)
    · rintro v s2 ⟨w', H', I2, rw', q⟩
      exact ⟨w', H', I2.os, I2.bare, I2.base, I2.hok, rw', q⟩
  · cases r with
    | ok fl =>
      cases fl with
      | ret u => exact J.after hq
      | _ => exact hq.elim
    | error e => exact passes_call tk hW pz σz K1 s1 e s' J hq
/-- x(lambda: body), the def x tells what comes of it -/
theorem pe_tell {TT : (XK → Hp → VK → Prop) → Hp → VK → Prop} {T : List (Addr × Str)} {x a : Str} {g c P : Addr} {k : Nat} {pg : Arguments} {bg : List Stmt} {sg : Scope} {fd : FuncData} {Ng : List Str}
    {ps : Arguments} {body : Expr} {sc : Scope} {t : XK → TE} {p lp pos : Pos} (hg : L2.Gl X x) (hm : X.mg x = some (.ref g)) (FD : FunD X.K x x pg bg sg [] [] g fd) (hb : ∀ (s : Shared) (u : Value), BindsTo s fd ⟨[u], []⟩ [(a, u)]) (Sg : FnScope Ng [a] sg) (hN : Ng[0]? = some a) (hva : Vis sg a)
    (hG : ∀ cdg, LamX.GivesTo X Ng x sg g cdg bg a (X.env.qual ++ "<lambda>") TT) (TB : LamX.TabB X.base X.mg c P) (hcode : X.env.code = .ref c) (hT : (P, X.env.qual ++ "<lambda>") ∈ T) (hu : ∀ p ∈ T, p.1 = P → p.2 = X.env.qual ++ "<lambda>") (room : Room (k + 2) X.A)
    (L : LamX.LamS X.env.scope sc) (hdef : defaultsOf ps X.env = ([], [])) (hbind : ∀ (pm ct : Value) (co : Addr), bindArgs (lamF X ps body sc pm co ct) ⟨[], []⟩ = pure [])
    (hbody : ∀ (A : Around) (outer : List PySem.Env) (s : Shared) (H : Hp) (E : XK) (fo co : Addr), A.guards = X.A.guards → Room k (A.deeper (LamX.lamEnv X sc s.heap.objs.size fo co)) → PE (LamX.lamCx X A outer s H E sc fo co) body (t E))
    (hdb : (x == ("__debug__" : Str)) = false) (hd : (a == ("__debug__" : Str)) = false) (hcd : (a == ("__classdict__" : Str)) = false) :
    PE X (.Call (.Name x p) [.Lambda ps body sc lp] [] pos) (LamX.tLam T TT t) := by
  constructor
  rintro pins s σ H Q I ⟨tb, h⟩
  refine wpAny_Call_Name_kw (ld_glob I hg hm (PySem.W.callWith_K (h₀ := X.base) I.ok.mod.kin FD.kp ?_ (by rfl) (by rfl)) hdb)
  show wpAny _ _ (spliced ((false, eval (.Lambda ps body sc lp) X.env) :: backTo pos (starEach [] X.env))) _ _ s
  refine Calls.spliced_cons (LamX.lam_make2 I TB hcode hT hu tb hdef (L.has I.ok) ?_)
  intro fo co pm ct H1 s1 I1 eN T1 ho hn hfr hco
  refine Calls.spliced_nil ⟨I1.kIn, wpAny_call ?_⟩
  obtain ⟨oc, od, dV, kV, doc, pm2, an, cdv, ct2, osl, e, lk, hcd', _, _⟩ := FD.ex
  subst e
  have run := LamX.run_ofS (CX := C8.CX0) (P := X.prog) (w := X.w) (mg := X.mg) (base := X.base) (N := Ng) (ps := [a]) (args := ⟨[.ref fo], []⟩) (us := [.ref fo]) (vs := [.ref fo]) (Q := Q) (E := C8.E0) lk hcd' Sg room I1.env0 (hb s1 (.ref fo)) (.cons rfl .nil) rfl fun hr' => by
    obtain ⟨t', a1, a2⟩ := hG cdv fo co s1 H1 Q (fun E H' Q' => t E σ H' Q') (fun W pn xe E p1 p2 tk hW => act_call I1 L ho hn hfr (hbind _ _ _) tk hW hr' (fun A outer s H gd r2 => hbody A outer s H E fo co gd r2) hN hva hd hcd) hco (h H1 eN T1)
    exact ⟨t', a1.nox, a2⟩
  refine codeAny_mono run fun r s2 hq => ?_
  cases r with
  | ok fl =>
    cases fl with
    | ret u => exact I1.after hq
    | _ => exact hq.elim
  | error e => exact (show False from hq).elim
end
end Zw
set_option Elab.async false
set_option linter.all false
set_option maxRecDepth 100000
set_option maxHeartbeats 1000000
/-! ZwS: classes with slots: what __init__ stores. -/
namespace Zw
open PySem PySem.Spec PyProof.Rows L2
theorem heap_size : ∀ n : Nat, ∃ h : Heap, h.objs.size = n
  | 0 => ⟨{ objs := #[] }, rfl⟩
  | n + 1 => by
    obtain ⟨h, e⟩ := heap_size n
    exact ⟨h.push { cls := .none, data := .fields #[] }, by rw [Heap.size_push, e]⟩
theorem heap_at (a : Addr) {o : Obj} (hf : o.isFreed = false) : ∃ h : Heap, h.get? a = some o := by
  obtain ⟨h, e⟩ := heap_size a
  exact ⟨h.push o, by rw [← e]; exact Heap.get?_push_size _ hf⟩
/-- an instance is no code object -/
theorem slO_code {a C dx : Addr} {vs : List (Option V)} {q : Str} : SlX.SlO a C dx vs ≠ LamX.CodeO a q := fun z => by
  unfold SlX.SlO LamX.CodeO at z
  injection z with z
  obtain ⟨h, hh⟩ := heap_at a (o := { cls := .none, data := .fields #[.none, .str q 0] }) rfl
  have e := congrFun z h
  have k : ∃ (oc : Obj) (vs : Array Value) (t : Tok), h.get? a = some oc ∧ oc.data = .fields vs ∧ vs[1]? = some (.str q t) := ⟨_, _, 0, hh, rfl, rfl⟩
  rw [← e] at k
  obtain ⟨sl, h1, _⟩ := k
  rw [hh] at h1
  cases h1
theorem tabs_upd2 {T : List (Addr × Str)} {H : Hp} {a : Addr} {o : HO} (t : LamX.Tabs T H) (h : ∀ u, H a = some u → NT u ∧ ∀ q, u ≠ LamX.CodeO a q) : LamX.Tabs T (upd H a o) := fun p hp => by
  obtain ⟨ps, h1, h2, h3⟩ := t p hp
  refine ⟨ps, ?_, h2, fun pos cv e => ?_⟩
  · rw [upd_ne]
    · exact h1
    · intro z
      exact (h _ (by rw [← z]; exact h1)).1 ps rfl
  · obtain ⟨c, e1, e2⟩ := h3 pos cv e
    refine ⟨c, e1, ?_⟩
    rw [upd_ne]
    · exact e2
    · intro z
      subst z
      exact (h _ e2).2 _ rfl
/-- plain enough: no table, no code object -/
def Pl (a : Addr) (o : HO) : Prop := NT o ∧ ∀ q, o ≠ LamX.CodeO a q
theorem pl_xd {a : Addr} {fs : List (Str × V)} : Pl a (.xd fs) := ⟨fun _ z => (by cases z), fun q z => (by unfold LamX.CodeO at z; cases z)⟩
theorem pl_own {a x : Addr} : Pl a (.own x) := ⟨fun _ z => (by cases z), fun q z => (by unfold LamX.CodeO at z; cases z)⟩
theorem pl_ins {a C dx : Addr} {fs : List (Str × V)} : Pl a (.ins C dx fs) := ⟨fun _ z => (by cases z), fun q z => (by unfold LamX.CodeO at z; cases z)⟩
theorem pl_slO {a C dx : Addr} {vs : List (Option V)} : Pl a (SlX.SlO a C dx vs) := ⟨fun ps z => (by unfold SlX.SlO at z; cases z), fun q => slO_code⟩
section
variable {K : PySem.W.Frag} {F F' H H' F0 H0 : Hp} {μ : List Addr} {S S' : Store} {x dx C : Addr} {vs : List (Option V)}
theorem Rel.put2 {p : Addr} {o : HO} (r : Rel K F μ S H) (hF : F p = none) (hm : p ∉ μ) (hl : ∀ u, H p = some u → Pl p u) : Rel K F μ S (upd H p o) := by
  refine ⟨fun a u e => ?_, r.len, r.nd, fun k a xs e1 e2 => ?_, r.dis, r.ft, tabs_upd2 r.tab hl, fun k a x fs e1 e2 => (r.ob2 k a x fs e1 e2).to (fun _ _ h => h) (fun _ _ h => h) fun o _ h => by rw [upd_ne (fun z => hm (by rw [← z]; exact List.mem_of_getElem? e1))]; exact h⟩
  · have q : a ≠ p := fun z => by rw [z, hF] at e; cases e
    rw [upd_ne q]; exact r.sub a u e
  · obtain ⟨vs, h1, h2⟩ := r.obj k a xs e1 e2
    have q : a ≠ p := fun z => hm (by rw [← z]; exact List.mem_of_getElem? e1)
    exact ⟨vs, by rw [upd_ne q]; exact h1, h2⟩
/-- what self holds, slot by slot -/
inductive ROL (K : PySem.W.Frag) (F : Hp) : List (Option V) → List (Option D) → Prop
  | nil : ROL K F [] []
  | non {vs : List (Option V)} {os : List (Option D)} : ROL K F vs os → ROL K F (none :: vs) (none :: os)
  | som {v : V} {d : D} {vs : List (Option V)} {os : List (Option D)} : Rp K F v d → ROL K F vs os → ROL K F (some v :: vs) (some d :: os)
theorem ROL.mono (e : Same F F') : ∀ {vs : List (Option V)} {os : List (Option D)}, ROL K F vs os → ROL K F' vs os
  | _, _, .nil => .nil
  | _, _, .non r => .non (ROL.mono e r)
  | _, _, .som h r => .som (h.mono e) (ROL.mono e r)
theorem ROL.length : ∀ {vs : List (Option V)} {os : List (Option D)}, ROL K F vs os → vs.length = os.length
  | _, _, .nil => rfl
  | _, _, .non r => by simp [ROL.length r]
  | _, _, .som _ r => by simp [ROL.length r]
theorem ROL.rep : ∀ n : Nat, ROL K F (List.replicate n none) (List.replicate n none)
  | 0 => .nil
  | n + 1 => .non (ROL.rep n)
theorem ROL.app : ∀ {vs ws : List (Option V)} {os ps : List (Option D)}, ROL K F vs os → ROL K F ws ps → ROL K F (vs ++ ws) (os ++ ps)
  | _, _, _, _, .nil, r => r
  | _, _, _, _, .non q, r => .non (q.app r)
  | _, _, _, _, .som h q, r => .som h (q.app r)
theorem ROL.set {v : V} {d : D} (h : Rp K F v d) : ∀ {vs : List (Option V)} {os : List (Option D)} (i : Nat), ROL K F vs os → ROL K F (vs.set i (some v)) (os.set i (some d))
  | _, _, _, .nil => .nil
  | _, _, 0, .non r => .som h r
  | _, _, 0, .som _ r => .som h r
  | _, _, i + 1, .non r => .non (r.set h i)
  | _, _, i + 1, .som q r => .som q (r.set h i)
theorem ROL.put {v : V} {d : D} {vs : List (Option V)} {os : List (Option D)} (r : ROL K F vs os) (h : Rp K F v d) (i : Nat) : ROL K F (SlX.putS i v vs) (putO i d os) := by
  unfold SlX.putS putO
  rw [r.length]
  exact (r.app (ROL.rep _)).set h i
theorem ROL.all : ∀ {vs : List (Option V)} {os : List (Option D)} {ds : List D}, ROL K F vs os → allO os = some ds → ∃ ws, vs = ws.map some ∧ RpL K F ws ds
  | _, _, ds, .nil, h => by
    cases h
    exact ⟨[], rfl, .nil⟩
  | _, _, ds, .non r, h => by cases h
  | _, _, ds, .som (os := os) q r, h => by
    rw [allO] at h
    cases e : allO os with
    | none => rw [e] at h; cases h
    | some es =>
      rw [e] at h
      cases h
      obtain ⟨ws, e1, e2⟩ := r.all e
      exact ⟨_ :: ws, by rw [e1]; rfl, .cons q e2⟩
/-- self while it is made: at x, its dict at dx; the caller's state F0, H0 -/
structure MS (K : PySem.W.Frag) (F0 H0 : Hp) (μ : List Addr) (F H : Hp) (S : Store) (x dx C : Addr) (vs : List (Option V)) (os : List (Option D)) : Prop where
  rel : Rel K F μ S H
  ext : Ext μ F0 H0 F H
  sl : SlX.Slt H x C dx vs
  ld : ∃ o, H dx = some o ∧ Pl dx o
  ro : ROL K F vs os
  gx : Gone H0 x
  gd : Gone H0 dx
  fx : F x = none
  fd : F dx = none
  mx : x ∉ μ
  md : dx ∉ μ
  ne : dx ≠ x
theorem slt_pl (h : SlX.Slt H x C dx vs) : ∃ o, H x = some o ∧ Pl x o := by
  rcases h with ⟨h, _⟩ | ⟨h, _⟩
  · exact ⟨_, h, pl_ins⟩
  · exact ⟨_, h, pl_slO⟩
theorem MS.step {os : List (Option D)} (m : MS K F0 H0 μ F H S x dx C vs os) (e : Ext μ F H F' H') (r : Rel K F' μ S' H') : MS K F0 H0 μ F' H' S' x dx C vs os := by
  obtain ⟨o, ho, po⟩ := m.ld
  obtain ⟨u, hu, pu⟩ := slt_pl m.sl
  refine ⟨r, m.ext.trans e, ?_, ⟨o, e.keep _ _ ho po.1 m.md, po⟩, m.ro.mono e.fs, m.gx, m.gd, (e.fn x (lv hu pu.1)).trans m.fx, (e.fn dx (lv ho po.1)).trans m.fd, m.mx, m.md, m.ne⟩
  rcases m.sl with ⟨h, z⟩ | ⟨h, h2⟩
  · exact .inl ⟨e.keep _ _ h (pl_ins (a := x)).1 m.mx, z⟩
  · exact .inr ⟨e.keep _ _ h (pl_slO (a := x)).1 m.mx, e.keep _ _ h2 (pl_xd (a := x)).1 m.md⟩
theorem MS.put {os os' : List (Option D)} {vs' : List (Option V)} (m : MS K F0 H0 μ F H S x dx C vs os) (r : ROL K F vs' os') : MS K F0 H0 μ F (SlX.slH H x C dx vs') S x dx C vs' os' := by
  obtain ⟨o, ho, po⟩ := m.ld
  obtain ⟨u, hu, pu⟩ := slt_pl m.sl
  have r1 : Rel K F μ S (upd H dx (.xd [])) := m.rel.put2 m.fd m.md fun u e => by rw [ho] at e; cases e; exact po
  have hx : upd H dx (.xd []) x = some u := by rw [upd_ne (Ne.symm m.ne)]; exact hu
  have r2 : Rel K F μ S (upd (upd H dx (.xd [])) x (SlX.SlO x C dx vs')) := r1.put2 m.fx m.mx fun u e => by rw [hx] at e; cases e; exact pu
  exact ⟨r2, (m.ext.put m.gd (pl_xd (a := x)).1).put m.gx (pl_slO (a := x)).1, SlX.slH_slt m.ne, ⟨.xd [], by unfold SlX.slH; rw [upd_ne m.ne, upd_same], pl_xd⟩, r, m.gx, m.gd, m.fx, m.fd, m.mx, m.md, m.ne⟩
/-- all slots are there: self is a tree -/
theorem MS.done {y : Str} {os : List (Option D)} {ds : List D} {ws : List V} (m : MS K F0 H0 μ F H S x dx (He.ga K y) vs os) (hn : ds ≠ []) (c : SlC K y) (h : allO os = some ds) :
    ∃ F', Ext μ F0 H0 F' H ∧ Rel K F' μ S H ∧ Rp K F' (.ref x) (.ins y ds) := by
  obtain ⟨ws, e, rs⟩ := m.ro.all h
  subst e
  rcases m.sl with ⟨_, z⟩ | ⟨h1, h2⟩
  · have : ws = [] := by simpa using z
    subst this
    cases rs
    exact absurd rfl hn
  · have n1 : ∀ a u, F a = some u → a ≠ dx := fun a u e z => by rw [z, m.fd] at e; cases e
    have n2 : ∀ a u, F a = some u → a ≠ x := fun a u e z => by rw [z, m.fx] at e; cases e
    have sF : Same F (upd (upd F dx (.xd [])) x (SlX.SlO x (He.ga K y) dx (ws.map some))) := fun a u e => by rw [upd_ne (n2 a u e), upd_ne (n1 a u e)]; exact e
    refine ⟨upd (upd F dx (.xd [])) x (SlX.SlO x (He.ga K y) dx (ws.map some)), ⟨fun a u e => sF a u (m.ext.fs a u e), fun a g => ?_, m.ext.keep, m.ext.live⟩, ⟨fun a u e => ?_, m.rel.len, m.rel.nd, fun k a xs e1 e2 => ?_, fun a ha => ?_, fun a u e => ?_, m.rel.tab, fun k a y fs e1 e2 => (m.rel.ob2 k a y fs e1 e2).to sF (fun _ _ h => h) fun _ _ h => h⟩, ?_⟩
    · rw [upd_ne (goneNe g m.gx), upd_ne (goneNe g m.gd)]
      exact m.ext.fn a g
    · by_cases q : a = x
      · rw [q, upd_same] at e; cases e; rw [q]; exact h1
      · rw [upd_ne q] at e
        by_cases q2 : a = dx
        · rw [q2, upd_same] at e; cases e; rw [q2]; exact h2
        · rw [upd_ne q2] at e; exact m.rel.sub a u e
    · obtain ⟨vs, k1, k2⟩ := m.rel.obj k a xs e1 e2
      exact ⟨vs, k1, k2.mono sF⟩
    · rw [upd_ne (fun z => m.mx (by rw [← z]; exact ha)), upd_ne (fun z => m.md (by rw [← z]; exact ha))]
      exact m.rel.dis a ha
    · by_cases q : a = x
      · rw [q, upd_same] at e; cases e; exact (pl_slO (a := x)).1
      · rw [upd_ne q] at e
        by_cases q2 : a = dx
        · rw [q2, upd_same] at e; cases e; exact (pl_xd (a := x)).1
        · rw [upd_ne q2] at e; exact m.rel.ft a u e
    · exact .ins upd_same (by rw [upd_ne m.ne, upd_same]) c (rs.mono sF)
end
/-! ### self.f = v -/
section
variable {X : Cx}
def gSl (K : PySem.W.Frag) (ta : TE) (f : Str) : TG := fun v σ H Q => ta σ H fun x H1 => ∃ a C dx p vs i, x = .ref a ∧ SlX.Slt H1 a C dx vs ∧ SlX.SCls K C ∧ SlX.Slot1 K C f p i ∧ Q σ (SlX.slH H1 a C dx (SlX.putS i v vs))
theorem pg_sl {o : Expr} {f : Str} {ta : TE} {pos : Pos} (ho : PE X o ta) : PG X (.Attribute o f pos) (gSl X.K ta f) := by
  refine ⟨fun pins s σ H v u Q I r h => ?_⟩
  rw [assign_Attribute]
  refine wpAny_bind (wpAny_holding (thn (ho.run pins s σ H _ I h) fun ov s1 ⟨x, H1, I1, rx, a, C, dx, p, vs, i, ex, hs, c, t, q⟩ => ?_))
  subst ex
  obtain rfl : ov = Value.ref a := rx
  refine wpAny_bind (wpAny_standAt (wpAny_bind (wpAny_holding (SlX.setslot_ok I1 hs c t r fun s2 I2 => ?_))))
  exact wpAny_release ⟨σ, _, I2, q⟩
def lookV : List Nat → L2.St → Option (List V)
  | [], _ => some []
  | j :: r, σ => match σ[j]? with
    | some (some v) => (lookV r σ).map (v :: ·)
    | _ => none
def tVars (js : List Nat) : TA := fun σ H Q => ∃ vs, lookV js σ = some vs ∧ Q vs H
theorem vars_nil : PA X [] (tVars []) := PA.weak pa_nil fun σ H Q ⟨vs, e, q⟩ => by cases e; exact q
theorem vars_cons {j : Nat} {js : List Nat} {e : Expr} {es : List Expr} (h : PE X e (tVar j)) (hs : PA X es (tVars js)) (n : notStar e = true) : PA X (e :: es) (tVars (j :: js)) :=
  PA.weak (pa_cons h hs (starEach_plain n)) fun σ H Q ⟨vs, e, q⟩ => by
    rw [lookV] at e
    split at e
    · rename_i v hv
      cases e2 : lookV js σ with
      | none => rw [e2] at e; cases e
      | some ws =>
        rw [e2] at e
        cases e
        exact ⟨v, hv, ws, e2, q⟩
    · cases e
end
section
variable {K : PySem.W.Frag} {xc : Nat → Option XCls} {W : WX} {F0 H0 : Hp} {μ : List Addr} {σ : L2.St} {ρ : Env} {x dx C : Addr} {G : Gx} {X : Cx}
theorem lookV_ok {F H : Hp} (er : ER K F μ H ρ σ) : ∀ {js : List Nat} {ds : List D}, evVars js ρ = some ds → ∃ vs, lookV js σ = some vs ∧ RpL K F vs ds
  | [], ds, e => by cases e; exact ⟨[], rfl, .nil⟩
  | j :: js, ds, e => by
    rw [evVars] at e
    split at e
    · rename_i d hd
      cases e2 : evVars js ρ with
      | none => rw [e2] at e; cases e
      | some es =>
        rw [e2] at e
        cases e
        obtain ⟨v, h1, h2⟩ := er.val j _ hd
        obtain ⟨ws, h3, h4⟩ := lookV_ok er e2
        exact ⟨v :: ws, by rw [lookV, h1, h3]; rfl, .cons h2 h4⟩
    · cases e
theorem evVars_len : ∀ {js : List Nat} {ds : List D}, evVars js ρ = some ds → ds.length = js.length
  | [], ds, e => by cases e; rfl
  | j :: js, ds, e => by
    rw [evVars] at e
    split at e
    · cases e2 : evVars js ρ with
      | none => rw [e2] at e; cases e
      | some es =>
        rw [e2] at e
        cases e
        simp [evVars_len e2]
    · cases e
/-- what is left of __init__ -/
def okIn (K : PySem.W.Frag) (xc : Nat → Option XCls) (F0 H0 : Hp) (μ : List Addr) (W : WX) (x dx C : Addr) (De : Ends) (σ : L2.St) (r : R (List (Option D))) : Prop := match r with
  | .ok os S' => ∀ F H vs, MS K F0 H0 μ F H S' x dx C vs os → De.nx σ H
  | .ex c p S' => ∀ F H vs os cls d, MS K F0 H0 μ F H S' x dx C vs os → XR K xc F H c p cls d → W cls d σ H
  | .bad => False
def semI (G : Gx) (pre : List (CE × Nat)) (sets : List (List (Nat × Nat))) (ρ : Env) (os : List (Option D)) (s : Store) : R (List (Option D)) := (evPre G pre ρ s).bind fun _ s => .of (runSets sets ρ os) s
def tIn (K : PySem.W.Frag) (xc : Nat → Option XCls) (F0 H0 : Hp) (μ : List Addr) (W : WX) (x dx C : Addr) (σ : L2.St) (m : List (Option D) → Store → R (List (Option D))) : TS := fun De σ' H =>
  σ' = σ ∧ ∃ F S vs os, MS K F0 H0 μ F H S x dx C vs os ∧ okIn K xc F0 H0 μ W x dx C De σ (m os S)
theorem i_nil : PSs X [] (tIn K xc F0 H0 μ W x dx C σ (semI G [] [] ρ)) := PSs.weak pss_nil fun D σ' H ⟨e, F, S, vs, os, m, h⟩ => by
  subst e
  exact h F H vs m
theorem i_pre {c : Expr} {st : Stmt} {rest : List Stmt} {cc : CE} {cl : Nat} {cv : Value} {pre : List (CE × Nat)} {sets : List (List (Nat × Nat))} {pos : Pos} (er : ER X.K F0 μ H0 ρ σ) (hc : PT X c (tMT X.K xc W (evT G cc))) (hr : PS X st (fun _ σ H => W cv none σ H)) (hx : xc cl = some ⟨cv, none⟩)
    (h2 : PSs X rest (tIn X.K xc F0 H0 μ W x dx C σ (semI G pre sets ρ))) : PSs X (.If c [st] [] pos :: rest) (tIn X.K xc F0 H0 μ W x dx C σ (semI G ((cc, cl) :: pre) sets ρ)) :=
  PSs.weak (pss_cons (ps_if hc (pss_one hr) pss_nil) h2) fun D σ' H ⟨e, F, S, vs, os, m, h⟩ => by
    subst e
    refine ⟨F, μ, S, ρ, m.rel, er.step m.ext, ?_⟩
    unfold semI at h
    rw [evPre] at h
    cases q : evT G cc ρ S with
    | bad => rw [q] at h; exact h.elim
    | ex c p S1 =>
      rw [q] at h
      exact fun F' H' cls d e r xr => h F' H' vs os cls d (m.step e r) xr
    | ok b S1 =>
      rw [q] at h
      intro F' H' e r
      have m1 := m.step e r
      cases b with
      | true =>
        have h : okIn X.K xc F0 H0 μ W x dx C D σ' (.ex cl [] S1) := h
        exact h F' H' vs os cv none m1 ⟨_, hx, rfl, trivial⟩
      | false => exact ⟨rfl, F', S1, vs, os, m1, h⟩
/-- the slots of one statement, one after another -/
def gMS (K : PySem.W.Frag) (F0 H0 : Hp) (μ : List Addr) (x dx C : Addr) (σ : L2.St) (is : List Nat) : TGs := fun vs σ' H Q => σ' = σ ∧ ∃ F S ws os ds, MS K F0 H0 μ F H S x dx C ws os ∧ RpL K F vs ds ∧ ds.length = is.length ∧
  ∀ H' ws', MS K F0 H0 μ F H' S x dx C ws' (putsO is ds os) → Q σ H'
theorem gm_nil : PGs X [] (gMS K F0 H0 μ x dx C σ []) := ⟨fun pins s σ' H vs us Q I r ⟨e, F, S, ws, os, ds, m, rp, hl, q⟩ => by
  subst e
  cases ds with
  | cons => cases hl
  | nil =>
    cases rp
    exact pgs_nil.run pins s σ' H [] us Q I r ⟨rfl, q H ws m⟩⟩
theorem gm_cons {e : Expr} {es : List Expr} {f : Str} {i : Nat} {is : List Nat} {p : Addr} {pos : Pos} (he : PE X e (tVar 0)) (h0 : σ[0]? = some (some (.ref x))) (c : SlX.SCls X.K C) (sl : SlX.Slot1 X.K C f p i)
    (h : PGs X es (gMS X.K F0 H0 μ x dx C σ is)) : PGs X (.Attribute e f pos :: es) (gMS X.K F0 H0 μ x dx C σ (i :: is)) := ⟨fun pins s σ' H vs us Q I r ⟨e1, F, S, ws, os, ds, m, rp, hl, q⟩ => by
  subst e1
  cases ds with
  | nil => cases hl
  | cons d ds =>
    cases rp with
    | cons rv rvs =>
      rename_i v vs' hh
      refine (pgs_cons (pg_sl he) h).run pins s σ' H (v :: vs') us Q I r ⟨v, vs', rfl, .ref x, h0, x, C, dx, p, ws, i, rfl, m.sl, c, sl, rfl, F, S, _, putO i d os, ds, m.put (m.ro.put rv i), rvs, by simpa using hl, q⟩⟩
theorem i_set1 {e v : Expr} {f : Str} {i j : Nat} {rest : List Stmt} {p : Addr} {sets : List (List (Nat × Nat))} {pos pos' : Pos} (er : ER X.K F0 μ H0 ρ σ) (he : PE X e (tVar 0)) (hv : PE X v (tVar j)) (h0 : σ[0]? = some (some (.ref x))) (c : SlX.SCls X.K C) (sl : SlX.Slot1 X.K C f p i)
    (hw : swapsWith v (some (.Attribute e f pos')) pos.line X.env = pure false)
    (h2 : PSs X rest (tIn X.K xc F0 H0 μ W x dx C σ (semI G [] sets ρ))) : PSs X (.Assign [.Attribute e f pos'] v pos :: rest) (tIn X.K xc F0 H0 μ W x dx C σ (semI G [] ([(i, j)] :: sets) ρ)) :=
  PSs.weak (pss_cons (SlX.ps_sl he hv hw) h2) fun D σ' H ⟨e1, F, S, vs, os, m, h⟩ => by
    subst e1
    have h : okIn X.K xc F0 H0 μ W x dx C D σ' (.of ((evVars [j] ρ).bind fun ds => runSets sets ρ (putsO [i] ds os)) S) := h
    cases q : evVars [j] ρ with
    | none => rw [q] at h; exact h.elim
    | some ds =>
      rw [q] at h
      obtain ⟨ws, l, rp⟩ := lookV_ok (er.step m.ext) q
      rw [lookV] at l
      split at l
      · rename_i w hw
        rw [lookV] at l
        cases l
        cases rp with
        | cons rv rvs =>
          rename_i d ds'
          cases rvs
          exact ⟨w, hw, .ref x, h0, x, C, dx, p, vs, i, rfl, m.sl, c, sl, rfl, F, S, _, putO i d os, m.put (m.ro.put rv i), h⟩
      · cases l
theorem i_setN {ts es : List Expr} {is js : List Nat} {rest : List Stmt} {sets : List (List (Nat × Nat))} {g : List (Nat × Nat)} {k1 k2 : Nat} {p1 p2 pos : Pos} (hc : X.calm = true) (er : ER X.K F0 μ H0 ρ σ) (hg : PGs X ts (gMS X.K F0 H0 μ x dx C σ (g.map (·.1)))) (hv : PA X es (tVars (g.map (·.2))))
    (hn : (assignEach ts X.env).length = g.length) (hst : (assignEach ts X.env).findIdx? (·.1) = none) (hs : swapsWithSole [.Tuple ts k1 p1] (.Tuple es k2 p2) pos.line X.env = pure false) (hw : swappedStores [.Tuple ts k1 p1] (.Tuple es k2 p2) X.env = pure none) (hgl : g.length ≤ line)
    (h2 : PSs X rest (tIn X.K xc F0 H0 μ W x dx C σ (semI G [] sets ρ))) : PSs X (.Assign [.Tuple ts k1 p1] (.Tuple es k2 p2) pos :: rest) (tIn X.K xc F0 H0 μ W x dx C σ (semI G [] (g :: sets) ρ)) :=
  PSs.weak (pss_cons (ps_asg (pe_tup hv) (pg_tup hc hg hn hst) hs hw rfl) h2) fun D σ' H ⟨e1, F, S, vs, os, m, h⟩ => by
    subst e1
    have h : okIn X.K xc F0 H0 μ W x dx C D σ' (.of ((evVars (g.map (·.2)) ρ).bind fun ds => runSets sets ρ (putsO (g.map (·.1)) ds os)) S) := h
    cases q : evVars (g.map (·.2)) ρ with
    | none => rw [q] at h; exact h.elim
    | some ds =>
      rw [q] at h
      obtain ⟨ws, l, rp⟩ := lookV_ok (er.step m.ext) q
      have hl : ds.length = g.length := evVars_len q |>.trans (by simp)
      refine ⟨ws, l, by rw [rp.length, hl, ← line_eq]; exact hgl, fun a ha => ⟨a, ws, rfl, SqT.of upd_same, by rw [rp.length, hl], rfl, F, S, vs, os, ds, m.step (Ext.newOwn ha nt_tup) (m.rel.newOwn ha), rp, by simp [hl], fun H' ws' m' => ⟨rfl, F, S, ws', _, m', h⟩⟩⟩
end
end Zw
set_option Elab.async false
set_option linter.all false
set_option maxRecDepth 100000
set_option maxHeartbeats 2000000
/-! ZwO: the place of the first item that something got does not hold of; a lambda of one parameter. -/
namespace Zw
open PySem PySem.Spec PyProof.Rows L2
/-! ### the def's body, the thing got at slot 1 -/
/-- what is asked of item x: p says -/
def tLeaf (K : PySem.W.Frag) (xc : Nat → Option XCls) (μ : List Addr) (Fe He : Hp) (f : Addr) (p : D → Store → R B) : TE := fun σ H Q => ∃ F S v x, σ[1]? = some (some (.ref f)) ∧ σ[3]? = some (some v) ∧ Ext μ Fe He F H ∧ Rel K F μ S H ∧ Rp K F v x ∧ okE K xc μ WF0 F H σ (p x S) Q
def tOdd (K : PySem.W.Frag) (xc : Nat → Option XCls) (μ : List Addr) (f : Addr) (Fe He : Hp) (p : D → Store → R B) : TS := fun De σ H => H = He ∧ ∃ S v0 d xs, Rel K Fe μ S H ∧ σ.length = 4 ∧ σ[0]? = some (some v0) ∧ σ[1]? = some (some (.ref f)) ∧ Rp K Fe v0 d ∧ itemsD d = some xs ∧ okE K xc μ WF0 Fe H σ (oddR p xs 0 S) De.rt
section
variable {Z : Cx} {xc : Nat → Option XCls} {μ : List Addr} {G0 : Gx} {p : D → Store → R B} {f : Addr} {Fe He : Hp}
theorem enum_at {xs : List D} {i : Nat} (h : i < xs.length) : (enumD xs)[i]? = some (.tup [.int i, xs[i]]) := by
  unfold enumD
  rw [List.getElem?_map, List.getElem?_zipIdx, List.getElem?_eq_getElem h]
  simp
theorem odd_body {tg it call atE : Expr} {j : Nat} {p1 p2 p3 p4 p5 p6 : Pos} (hp : PassesOwn (model Z.prog Z.w) Z.A Z.env Z.xe) (hc : Z.calm = true) (hi : PI Z tg it (tMI Z.K xc WF0 (wkM G0 3 [.var 0]))) (hg : PG Z tg (gOf Z.K (.tup [.nm 2, .nm 3]))) (hs : ∀ x, foldedSetIterable it Z.env x = pure x)
    (leaf : PE Z call (tLeaf Z.K xc μ Fe He f p)) (hv : ∀ whole, isTrue call Z.env whole = (do let v ← whole; standAt call.pos; holding [v] (truthy v))) (ha : PE Z atE (tVar 2)) :
    PSs Z [.For tg it [.If (.UnaryOp .Not call p1) [.Return (some atE) p2] [] p3] [] p4, .Return (some (.Constant .none j p5)) p6] (tOdd Z.K xc μ f Fe He p) := by
  refine PSs.weak (pss_cons (ps_for hp hc hi hg (pss_one (ps_if (pt_not (pt_val leaf hv)) (pss_one (ps_ret ha)) pss_nil)) hs) (pss_one (ps_ret pe_non))) fun De σ H ⟨eH, S, v0, d, xs, rel, len, h0, h1, rv, hx, h⟩ => ?_
  subst eH
  have er : ER Z.K Fe μ H [some (.t d), none, none, none] σ := by
    refine ⟨len.symm, fun i b e => ?_, fun i k d d' a _ e _ _ => ?_⟩
    · match i, e with
      | 0, e => cases e; exact ⟨v0, h0, rv⟩
      | 1, e => cases e
      | 2, e => cases e
      | 3, e => cases e
      | n + 4, e => simp at e
    · match i, e with
      | 0, e => cases e
      | 1, e => cases e
      | 2, e => cases e
      | 3, e => cases e
      | n + 4, e => simp at e
  refine ⟨Fe, μ, S, _, rel, er, ?_⟩
  have ew : wkM G0 3 [.var 0] [some (.t d), none, none, none] S = .ok ([.t d], enumD xs) S := by
    unfold wkM
    simp [evl, ev, readV, R.of, R.bind, B.still, seenW, seens, B.seen, walk, hx]
  rw [ew]
  intro F1 H1 J e1 r1 wk
  have wk := wk.1
  have hl : (enumD xs).length = xs.length := by unfold enumD; simp
  refine ⟨fun i m σ' H' => m = xs.length - i ∧ i ≤ xs.length ∧ ∃ F' S', σ'.length = 4 ∧ σ'[1]? = some (some (.ref f)) ∧ Ext μ F1 H1 F' H' ∧ Rel Z.K F' μ S' H' ∧ okE Z.K xc μ WF0 Fe H σ (oddR p (xs.drop i) i S') De.rt,
    ⟨_, rfl, Nat.zero_le _, F1, S, len, h1, Ext.refl _ _ _, r1, h⟩, ?_⟩
  rintro i m σ2 H2 ⟨rfl, hi, F2, S2, len2, g1, x2, r2, h2⟩
  by_cases hlt : i < xs.length
  · refine .inr ⟨wk.go i F2 H2 ⟨x2, r2.sub⟩ (by show i < (enumD xs).length; omega), fun σ' H' => ∃ F' S', σ'.length = 4 ∧ σ'[1]? = some (some (.ref f)) ∧ Ext μ F1 H1 F' H' ∧ Rel Z.K F' μ S' H' ∧ okE Z.K xc μ WF0 Fe H σ (oddR p (xs.drop (i + 1)) (i + 1) S') De.rt,
      fun σ' H' q => ⟨xs.length - (i + 1), by omega, rfl, hlt, q⟩, fun x H' y => ?_⟩
    obtain ⟨F2', nw, d', hd, rx⟩ := wk.yld i F2 H2 x H' ⟨x2, r2.sub⟩ y (by show i < (enumD xs).length; omega)
    have x3 := x2.trans (nw.ext r2.sub)
    have r3 := nw.rel r2
    rw [enum_at hlt] at hd
    cases hd
    rw [List.drop_eq_getElem_cons hlt, oddR] at h2
    cases rx with
    | @tup a ws _ t1 t2 =>
      cases t2 with
      | cons q0 t2 =>
        cases t2 with
        | cons q1 t2 =>
          rename_i w0 _ w1 ws'
          cases t2
          cases rp_int q0
          have hT : gOf Z.K (.tup [.nm 2, .nm 3]) = gTup Z.K 2 (gCons (gName 2) (gCons (gName 3) gNil)) := rfl
          rw [hT]
          refine ⟨a, _, rfl, sqT_sub r3.sub t1, rfl, .int i, [w1], rfl, w1, [], rfl, rfl, ?_⟩
          have k1 : ((σ2.set 2 (some (.int i))).set 3 (some w1))[1]? = some (some (.ref f)) := by
            rw [List.getElem?_set_ne (by decide), List.getElem?_set_ne (by decide)]; exact g1
          have k3 : ((σ2.set 2 (some (.int i))).set 3 (some w1))[3]? = some (some w1) := List.getElem?_set_self (by simp [len2])
          have k2 : ((σ2.set 2 (some (.int i))).set 3 (some w1))[2]? = some (some (.int i)) := by
            rw [List.getElem?_set_ne (by decide), List.getElem?_set_self (by omega)]
          refine ⟨F2', S2, w1, xs[i], k1, k3, e1.trans x3, r3, q1, ?_⟩
          cases qp : p xs[i] S2 with
          | bad => rw [qp] at h2; exact h2.elim
          | ex c q S3 => rw [qp] at h2; exact h2.elim
          | ok b S3 =>
            rw [qp] at h2
            intro F4 H4 v e4 r4 bv fr
            cases b with
            | t dd =>
              cases dd with
              | bl b =>
                cases rp_bl bv
                refine ⟨b, rfl, ?_⟩
                cases b with
                | true => exact ⟨F4, S3, by simp [len2], k1, x3.trans e4, r4, h2⟩
                | false =>
                  have h2 : okE Z.K xc μ WF0 Fe H σ (.ok (.t (.int i)) S3) De.rt := h2
                  exact ⟨_, k2, h2 F4 H4 (.int i) (e1.trans (x3.trans e4)) r4 (.int i) trivial⟩
              | _ => exact h2.elim
            | _ => exact h2.elim
  · have e : i = xs.length := by omega
    subst e
    rw [List.drop_length, oddR] at h2
    exact .inl ⟨by rw [← hl]; exact wk.stop F2 H2 ⟨x2, r2.sub⟩, h2 F2 H2 .non (e1.trans x2) r2 .non trivial⟩
theorem oddR_or : ∀ (xs : List D) (n : Nat) (s : Store), (∃ b s', oddR p xs n s = .ok b s') ∨ oddR p xs n s = .bad
  | [], n, s => .inl ⟨_, _, rfl⟩
  | x :: xs, n, s => by
    rw [oddR]
    split
    · exact oddR_or xs _ _
    · exact .inl ⟨_, _, rfl⟩
    · exact .inr rfl
theorem okE_odd {K : PySem.W.Frag} {F H : Hp} {W W' : WX} {σ σ' : L2.St} {xs : List D} {n : Nat} {S : Store} {Q : VK} (h : okE K xc μ W F H σ (oddR p xs n S) Q) : okE K xc μ W' F H σ' (oddR p xs n S) Q := by
  rcases oddR_or (p := p) xs n S with ⟨b, s', e⟩ | e
  · rw [e] at h ⊢; exact h
  · rw [e] at h; exact h.elim
end
/-! ### a def is what was got -/
section
variable {Z : Cx} {xc : Nat → Option XCls} {μ : List Addr} {f : Addr} {Fe He : Hp}
theorem leaf_def {m : List B → Store → R B} {k : Nat} {a b : Str} {p1 p2 p3 : Pos} (Fc : CalC Z.prog Z.w Z.K Z.mg Z.base xc k f m) (hr : Room k Z.A) (hgd : Z.A.guards = some []) (hk : PySem.W.keepIn Z.K (.ref f) = true)
    (ha : PE Z (.Name a p1) (tVar 1)) (hb : PE Z (.Name b p3) (tVar 3)) : PE Z (.Call (.Name a p1) [.Name b p3] [] p2) (tLeaf Z.K xc μ Fe He f fun x s => m [.t x] s) := by
  refine ⟨fun pz sZ σz Hz Q IZ ⟨F, S, v, x, h1, h3, _, r, rv, h⟩ => ?_⟩
  have look := ha.run pz sZ σz Hz (fun v K1 => v = .ref f ∧ K1 = Hz) IZ ⟨.ref f, h1, rfl, rfl⟩
  refine wpAny_Call_Name_kw (thn look ?_)
  rintro u s1 ⟨w, K1, J, rw', e1, e2⟩
  subst e1 e2
  obtain rfl : u = Value.ref f := rw'
  have arg := (pa_cons hb pa_nil (starEach_plain rfl)).run p2 pz s1 σz K1 (fun vs H1 => vs = [v] ∧ H1 = K1) J ⟨v, h3, rfl, rfl⟩
  refine PySem.W.callWith_K (h₀ := Z.base) J.ok.mod.kin hk (thn arg fun us s2 ⟨vs, H2, J2, rvs, e1, e2⟩ => ⟨J2.kIn, ?_⟩) (starEach_plain rfl) (backTo_plain rfl)
  subst e1 e2
  cases rvs with
  | cons ru rn =>
    cases rn
    refine Fc.run Z WF0 pz σz s2 H2 _ [v] F μ S [.t x] Q rfl rfl rfl rfl rfl hr hgd LamX.takes0 J2 (.cons ru .nil) r (.cons rv .nil) ?_
    have h : okE Z.K xc μ WF0 F H2 σz (m [.t x] S) Q := h
    generalize m [.t x] S = r at h ⊢
    cases r with
    | ok b s' => exact h
    | ex c p s' => exact h
    | bad => exact h
end
/-! ### a lambda of one parameter -/
structure LamP (sc scope : Scope) (q : Str) : Prop where
  kind : scope.kind = .function
  co : scope.isCoroutine = false
  gen : scope.isGenerator = false
  own : ∀ y ∈ scope.names, (y.2 = .local → y.1 = q) ∧ y.2 ≠ .cell
  par : scope.names.lookup q = some .local
  free : ∀ y ∈ scope.names, y.2 = .free → sc.names.lookup y.1 = some .cell ∨ sc.names.lookup y.1 = some .free
def lamPB (sc scope : Scope) (q : Str) : Bool :=
  decide (scope.kind = .function) && !scope.isCoroutine && !scope.isGenerator && decide (scope.names.lookup q = some .local) && scope.names.all fun y => (!decide (y.2 = .local) || decide (y.1 = q)) && !decide (y.2 = .cell) && (!decide (y.2 = .free) || decide (sc.names.lookup y.1 = some .cell) || decide (sc.names.lookup y.1 = some .free))
theorem lamP_by {sc scope : Scope} {q : Str} (h : lamPB sc scope q = true) : LamP sc scope q := by
  unfold lamPB at h
  simp only [Bool.and_eq_true, Bool.or_eq_true, Bool.not_eq_true', decide_eq_true_eq, decide_eq_false_iff_not, List.all_eq_true] at h
  obtain ⟨⟨⟨⟨h1, h2⟩, h3⟩, h5⟩, h4⟩ := h
  refine ⟨h1, h2, h3, fun y hy => ⟨fun z => ?_, (h4 y hy).1.2⟩, h5, fun y hy e => ?_⟩
  · rcases (h4 y hy).1.1 with w | w
    · exact absurd z w
    · exact w
  · rcases (h4 y hy).2 with (z | z) | z
    · exact absurd e z
    · exact .inl z
    · exact .inr z
theorem LamP.has {X : Cx} {scope : Scope} {q : Str} (L : LamP X.env.scope scope q) (ok : X.Ok) : ∀ y ∈ scope.names, y.2 = .free → ∃ c, X.env.cells.lookup y.1 = some c := fun y hy e => by
  rcases L.free y hy e with k | k
  · exact ok.has _ (.inl k)
  · exact ok.has _ (.inr k)
abbrev lamCxP (X : Cx) (q : Str) (A : Around) (outer : List PySem.Env) (s : Shared) (H : Hp) (E : XK) (scope : Scope) (f c' : Addr) : Cx := { LamX.lamCx X A outer s H E scope f c' with N := X.N ++ [q] }
section
variable {X : Cx} {pins : List (Addr × Obj)} {σ : L2.St} {H HZ : Hp} {s s1 : Shared}
theorem lam_startP {A : Around} {outer : List PySem.Env} {E : XK} {scope : Scope} {f c' : Addr} {h₁ : Heap} {tk : Nat} {q : Str} {u : Value} {v : V} (I : Inv X pins σ H s) (L : LamP X.env.scope scope q) (hq : q ∉ X.N) (rv : RelV v u) (e0 : Env0 X.prog X.w X.K X.mg X.base A outer s1 HZ) (hd : A.handled = none)
    (un : Un (frs X.stack) [] H HZ s.heap s1.heap) (hns : h₁.Ns s1.heap.objs.size fun y => ([(q, u)] : List (Str × Value)).reverse.lookup y) (kp : ∀ b o, s1.heap.get? b = some o → h₁.get? b = some o) :
    Inv (lamCxP X q A outer s1 HZ E scope f c') [] (σ ++ [some v]) HZ { s1 with heap := h₁, toks := tk } := by
  have hfree := L.has I.ok
  have cm : ∀ {y c}, (cloFrom X.env.cells scope.names []).lookup y = some c → X.env.cells.lookup y = some c := fun {y c} e => by
    rcases cloFrom_mem (PySem.mem_of_lookup e) with hm | ⟨h1, h2⟩
    · cases hm
    · obtain ⟨c1, hc⟩ := hfree _ h1 rfl
      have hc : X.env.cells.lookup y = some c1 := hc
      have e2 : c = c1 := by
        rw [h2, hc] <;> rfl
      rw [e2]
      exact hc
  have look : ∀ {y}, scope.names.lookup y = some .free → ∃ c, (cloFrom X.env.cells scope.names []).lookup y = some c := fun {y} hl => by
    have hy : (y, NameKind.free) ∈ scope.names := PySem.mem_of_lookup hl
    exact mem_lookup (cloFrom_has (cells := X.env.cells) (acc := []) hy)
  have cellK : ∀ {c : Addr} {v : Option Value}, H c = none → s.heap.IsCell c v → h₁.IsCell c v := fun {c v} n ⟨o, ho, hd⟩ => by
    obtain ⟨sl, q⟩ := un.any ho n (by simp)
    exact ⟨_, kp _ _ q, hd⟩
  have noA : ∀ b : Addr, b ∉ (lamCxP X q A outer s1 HZ E scope f c').ex := fun b z => absurd (show b ∈ ([] : List Addr) from z) (by simp)
  refine ⟨⟨e0.mod, L.kind, rfl, rfl, Nat.le_refl _, fun y z c e1 e2 => I.ok.inj y z c (cm e1) (cm e2), fun y hy => ?_, fun y c z _ => ?_, fun _ => hd, Around.frames_deeper e0.frames, .inr ⟨rfl, rfl⟩, fun b z => absurd z (noA b), e0.bs, e0.bsz, fun b _ _ => noA b,
      fun b z => absurd z (noA b), e0.funs, e0.frf⟩,
    rfl, e0.bare, Un.kept kp, ⟨_, hns, fun i y v' e1 e2 e3 => ?_⟩, fun y c e => ?_, e0.hok.fresh (Nat.le_refl _), fun y c e => ?_, fun q hq => absurd (show q ∈ ([] : List (Addr × Obj)) ++ [] from hq) (by simp), e0.hok.kept kp, ?_⟩
  · have hy : scope.names.lookup y = some .cell ∨ scope.names.lookup y = some .free := hy
    rcases hy with hy | hy
    · exact absurd rfl (L.own _ (PySem.mem_of_lookup hy)).2
    · exact look hy
  · have z : false = true := z
    cases z
  · have e1 : (X.N ++ [q])[i]? = some y := e1
    have e3 : Vis scope y := e3
    have hl := I.len
    by_cases li : i < X.N.length
    · rw [List.getElem?_append_left li] at e1
      rw [List.getElem?_append_left (by omega)] at e2
      have ny : y ≠ q := fun z => hq (by rw [← z]; exact List.mem_of_getElem? e1)
      rcases e3 with k | k | k
      · exact absurd ((L.own _ (PySem.mem_of_lookup k)).1 rfl) ny
      · exact absurd rfl (L.own _ (PySem.mem_of_lookup k)).2
      · obtain ⟨m, hn, hl⟩ := I.loc
        have hvis : Vis X.env.scope y := (L.free _ (PySem.mem_of_lookup k) rfl).elim (fun k => .inr (.inl k)) (fun k => .inr (.inr k))
        obtain ⟨w', r, q⟩ := hl i y v' e1 e2 hvis
        obtain ⟨c2, h2⟩ := look k
        refine ⟨w', r, .inr ⟨.inr k, c2, h2, ?_⟩⟩
        have c1 := cm h2
        rcases q with ⟨k', _⟩ | ⟨_, c3, e', z⟩
        · have k' : X.env.scope.names.lookup y = some .local := k'
          rcases L.free _ (PySem.mem_of_lookup k) rfl with k2 | k2 <;> rw [show X.env.scope.names.lookup y = _ from k2] at k' <;> cases k'
        · rw [c1] at e'
          cases e'
          exact cellK (I.freeC y _ c1) z
    · rw [List.getElem?_append_right (by omega)] at e1 e2
      have i0 : i - X.N.length = 0 := by
        have := (List.getElem?_eq_some_iff.mp e1).1
        simp at this
        omega
      rw [i0] at e1
      rw [show i - σ.length = 0 by omega] at e2
      cases e1
      cases e2
      exact ⟨u, rv, .inl ⟨L.par, by simp⟩⟩
  · obtain ⟨w', z⟩ := I.cell y c (cm e)
    exact ⟨w', cellK (I.freeC y c (cm e)) z⟩
  · obtain ⟨v, o, ho, hd⟩ := I.cell y c (cm e)
    exact un.free c o ho (I.freeC y c (cm e)) (by simp)
  · have hl := I.len
    show _ = _
    simp [hl]
/-- the call of what was got, in the def that got it -/
theorem act_callP {CXg : CXT} {EZ : XK} {NZ : List Str} {qz : Str} {sz : Scope} {gz fo co : Addr} {cz pm ct : Value} {ps : Arguments} {body : Expr} {sc : Scope} {k : Nat} {a b q : Str} {E : XK} {tb : TE} {p1 p2 p3 : Pos} {W : WX}
    (I : Inv X pins σ H s) (L : LamP X.env.scope sc q) (hq : q ∉ X.N) (ho : s.heap.get? fo = some (lamO X ps body sc pm co ct)) (hn : H fo = none) (hr : fo ∉ frs X.stack) (hb : ∀ u, bindArgs (lamF X ps body sc pm co ct) ⟨[u], []⟩ = pure [(q, u)])
    (tk : Takes (cxOf CXg X.prog X.w X.K X.mg X.base NZ qz sz gz cz X.A X.stack s H EZ) W) (hW : ∀ cls d σ' H', E cls d H' → W cls d σ' H') (room : Room (k + 1) (X.A.deeper (envOfC qz sz s.heap.objs.size gz cz)))
    (hbody : ∀ (A : Around) (outer : List PySem.Env) (s : Shared) (H : Hp), A.guards = X.A.guards → Room k (A.deeper (LamX.lamEnv X sc s.heap.objs.size fo co)) → PE (lamCxP X q A outer s H E sc fo co) body tb)
    (ha : PE (cxOf CXg X.prog X.w X.K X.mg X.base NZ qz sz gz cz X.A X.stack s H EZ) (.Name a p1) (tVar 1)) (hb3 : PE (cxOf CXg X.prog X.w X.K X.mg X.base NZ qz sz gz cz X.A X.stack s H EZ) (.Name b p3) (tVar 3)) :
    PE (cxOf CXg X.prog X.w X.K X.mg X.base NZ qz sz gz cz X.A X.stack s H EZ) (.Call (.Name a p1) [.Name b p3] [] p2)
      (fun σz Hz Q => ∃ v, σz[1]? = some (some (.ref fo)) ∧ σz[3]? = some (some v) ∧ Hz co = some (LamX.CodeO co (X.env.qual ++ "<lambda>")) ∧ tb (σ ++ [some v]) Hz Q) := by
  constructor
  intro pz sZ σz Hz Q IZ ⟨v, h1, h3, h2, h4⟩
  have look := ha.run pz sZ σz Hz (fun v K1 => v = .ref fo ∧ K1 = Hz) IZ ⟨.ref fo, h1, rfl, rfl⟩
  refine wpAny_Call_Name_kw (thn look ?_)
  rintro u s1 ⟨w, K1, J, rw', e1, e2⟩
  subst e1 e2
  obtain rfl : u = Value.ref fo := rw'
  have at1 := J.base.keep fo _ ho hn hr (fun z => nomatch (show fo ∈ ([] : List Addr) from z))
  have arg := (pa_cons hb3 pa_nil (starEach_plain rfl)).run p2 pz s1 σz K1 (fun vs H1 => vs = [v] ∧ H1 = K1) J ⟨v, h3, rfl, rfl⟩
  refine PySem.W.callWith_F ⟨_, _, _, _, at1⟩ (thn arg fun us s2 ⟨vs, H2, J2, rvs, e1, e2⟩ => ?_) (starEach_plain rfl) (backTo_plain rfl)
  subst e1 e2
  obtain ⟨u, rfl, ru⟩ := rvs.one
  have at2 := J2.base.keep fo _ ho hn hr (fun z => nomatch (show fo ∈ ([] : List Addr) from z))
  refine ⟨⟨_, _, _, _, at2⟩, ?_⟩
  obtain ⟨⟨oc, vs, t, c1, c2, c3⟩, _⟩ := J2.hok co _ h2
  refine wpAny_call (codeAny_mono (PySem.W.kla_callFunE room.depth at2 rfl L.co L.gen rfl ⟨co, oc, vs, t, rfl, c1, c2, c3⟩ ?_) (R := CR (L2.CX X.prog X.w) (envOfC qz sz s.heap.objs.size gz cz :: X.stack) X.prog X.w H2 s2 Q E) fun r s' hq => ?_)
  · show wpAny _ _ (bindArgs (lamF X ps body sc pm co ct) ⟨[u], []⟩) _ _ _
    rw [hb]
    refine wpAny_pure ?_
    refine wpAny_newFunctionEnv (fun y hy => (L.own y hy).2) (fun y hy => ?_) (fun h2 ns sb => ⟨J2.nolimit.fresh _ sb, ?_⟩) L.kind
    · rw [List.mem_singleton.mp hy]
      exact L.par
    refine PySem.W.kla_codeExpr (wpAny_mono ((hbody (X.A.deeper (envOfC qz sz s.heap.objs.size gz cz)) (envOfC qz sz s.heap.objs.size gz cz :: X.stack) s2 H2 rfl (room.deeper _)).run [] _ _ H2 Q ?_ h4) ?_ fun _ _ z => z)
    · refine lam_startP I L hq ru J2.env0 room.hd J2.base ns fun b o e => ?_
      exact sb.extBut b o (Nat.ne_of_lt (Heap.lt_size e)) (Heap.get?_push_of_some _ e)
    · rintro v s2 ⟨w', H', I2, rw', q⟩
      exact ⟨w', H', I2.os, I2.bare, I2.base, I2.hok, rw', q⟩
  · cases r with
    | ok fl =>
      cases fl with
      | ret u => exact J2.after hq
      | _ => exact hq.elim
    | error e => exact passes_call tk hW pz σz H2 s2 e s' J2 hq
end
theorem er_snoc {K : PySem.W.Frag} {F H : Hp} {μ : List Addr} {ρ : Env} {σ : L2.St} {v : V} {x : D} (er : ER K F μ H ρ σ) (r : Rp K F v x) : ER K F μ H (ρ ++ [some (.t x)]) (σ ++ [some v]) := by
  have hl := er.len
  have get : ∀ (i : Nat) (b : B), (ρ ++ [some (.t x)])[i]? = some (some b) → (i < ρ.length ∧ ρ[i]? = some (some b)) ∨ (i = ρ.length ∧ b = .t x) := fun i b e => by
    by_cases l : i < ρ.length
    · rw [List.getElem?_append_left l] at e
      exact .inl ⟨l, e⟩
    · rw [List.getElem?_append_right (by omega)] at e
      have h0 := (List.getElem?_eq_some_iff.mp e).1
      have i0 : i = ρ.length := by simp at h0; omega
      subst i0
      rw [Nat.sub_self] at e
      cases e
      exact .inr ⟨rfl, rfl⟩
  refine ⟨by simp [hl], fun i b e => ?_, fun i j d d' a n e1 e2 e3 e4 => ?_⟩
  · rcases get i b e with ⟨l, e⟩ | ⟨l, e⟩
    · obtain ⟨w, h1, h2⟩ := er.val i b e
      exact ⟨w, by rw [List.getElem?_append_left (by omega)]; exact h1, h2⟩
    · subst e
      refine ⟨v, ?_, r⟩
      rw [List.getElem?_append_right (by omega), show i - σ.length = 0 by omega]
      rfl
  · rcases get i _ e1 with ⟨l, e1⟩ | ⟨l, e1⟩
    · have e2' : j < ρ.length ∧ (ρ[j]? = some (some (B.own d')) ∨ ρ[j]? = some (some (B.bor d'))) := by
        rcases e2 with e2 | e2
        · rcases get j _ e2 with ⟨l2, e2⟩ | ⟨_, z⟩
          · exact ⟨l2, .inl e2⟩
          · cases z
        · rcases get j _ e2 with ⟨l2, e2⟩ | ⟨_, z⟩
          · exact ⟨l2, .inr e2⟩
          · cases z
      rw [List.getElem?_append_left (by omega)] at e3
      rw [List.getElem?_append_left (by omega)] at e4
      exact er.sep i j d d' a n e1 e2'.2 e3 e4
    · cases e1
/-! ### the def is called -/
section
variable {X : Cx} {pins : List (Addr × Obj)} {σ : L2.St} {xc : Nat → Option XCls} {W : WX}
theorem run_odd {x a0 a1 : Str} {g f : Addr} {k : Nat} {pg : Arguments} {bg : List Stmt} {sg : Scope} {fd : FuncData} {Ng : List Str} {p : D → Store → R B} {s : Shared} {F H : Hp} {μ : List Addr} {S : Store} {Q : VK} {u0 : Value} {v0 : V} {d : D} {xs : List D}
    (I : Inv X pins σ H s) (FD : FunD X.K x x pg bg sg [] [] g fd) (hb : ∀ (s : Shared) (us : List Value), us.length = 2 → BindsTo s fd ⟨us, []⟩ ([a0, a1].zip us)) (Sg : FnScope Ng [a0, a1] sg) (hl : Ng.length = 4) (room : Room (k + 1) X.A)
    (rv : RelV v0 u0) (rel : Rel X.K F μ S H) (rp : Rp X.K F v0 d) (hx : itemsD d = some xs) (h : okE X.K xc μ W F H σ (oddR p xs 0 S) Q)
    (hbody : ∀ cdv, Room k (X.A.deeper (envOfC x sg s.heap.objs.size g cdv)) → PSs (cxOf C8.CX0 X.prog X.w X.K X.mg X.base Ng x sg g cdv X.A X.stack s H C8.E0) bg (tOdd X.K xc μ f F H p)) :
    wpAny (model X.prog X.w) X.A (call (.ref g) [u0, .ref f]) (EP X pins σ Q) X.xe s := by
  refine wpAny_call ?_
  obtain ⟨oc, od, dV, kV, doc, pm, an, cdv, ct, osl, e, lk, hcd, _, _⟩ := FD.ex
  subst e
  have run := LamX.run_ofS (CX := C8.CX0) (P := X.prog) (w := X.w) (mg := X.mg) (base := X.base) (N := Ng) (ps := [a0, a1]) (args := ⟨[u0, .ref f], []⟩) (us := [u0, .ref f]) (vs := [v0, .ref f]) (Q := Q) (E := C8.E0) lk hcd Sg room I.env0 (hb s _ rfl) (.cons rv (.cons rfl .nil)) rfl fun hr' =>
    ⟨_, hbody cdv hr', rfl, S, v0, d, xs, rel, by simp [L2.start, hl], by simp [L2.start], by simp [L2.start], rp, hx, okE_odd h⟩
  refine codeAny_mono run fun r s2 hq => ?_
  cases r with
  | ok fl =>
    cases fl with
    | ret u => exact I.after hq
    | _ => exact hq.elim
  | error e => exact (show False from hq).elim
end
end Zw
set_option Elab.async false
set_option linter.all false
set_option maxRecDepth 100000
set_option maxHeartbeats 1000000
/-! ZwM: instances that their methods change: methods called. -/
namespace Zw
open PySem PySem.Spec PyProof.Rows L2
section
variable {X : Cx} {K : PySem.W.Frag} {xc : Nat → Option XCls} {W : WX} {F F' H H' F0 H0 F1 H1 : Hp} {μ μ0 : List Addr} {S S1 : Store} {σ : L2.St} {ρ : Env} {G : Gx} {D : Ends}
/-! ### a method called -/
def okBase : Expr → Bool
  | .Name .. => true
  | .Attribute .. => true
  | .Call (.Name ..) (_ :: _) _ _ => true
  | _ => false
theorem okBase_eq {o : Expr} {m : Str} {env : PySem.Env} {wh : Sem Value} (h : okBase o = true) : attributeBase o m env wh = wh := by
  unfold okBase at h
  split at h
  · rfl
  · rfl
  · rfl
  · cases h
theorem notStar_form {es : List Expr} {env : PySem.Env} {pos : Pos} (h : es.all notStar = true) : (backTo pos (starEach es env)).all (fun x => !x.1) = true := by
  induction es with
  | nil => rfl
  | cons e es ih =>
    rw [List.all_cons, Bool.and_eq_true] at h
    rw [starEach_plain h.1]
    show (true && (backTo pos (starEach es env)).all (fun x => !x.1)) = true
    rw [ih h.2] <;> rfl
theorem isOb_slt {x : Str} {v : V} {b : B} (r : Rel K F μ S H) (bv : BRp K F μ H v b) (h : isOb x b S = true) : ∃ a dx vs, v = .ref a ∧ SlX.Slt H a (He.ga K x) dx vs ∧ SlC K x := by
  unfold isOb at h
  split at h
  · rename_i y fs
    have e := of_decide_eq_true h
    subst e
    obtain ⟨a, dx, ws, ea, st, cl, _⟩ := slt_of r bv
    exact ⟨a, dx, _, ea, st, cl⟩
  · rename_i k
    cases q : S[k]? with
    | none => rw [q] at h; cases h
    | some o => cases o with
      | lst xs => rw [q] at h; cases h
      | obj y fs =>
        rw [q] at h
        have e := of_decide_eq_true h
        subst e
        obtain ⟨a, dx, ws, ea, _, st, cl, _⟩ := ob_at r bv (show obAt x k S = some fs by unfold obAt; rw [q]; simp)
        exact ⟨a, dx, _, ea, st, cl⟩
  · cases h
/-- o.m(..), m a method of the class x -/
theorem pe_methM {k : Nat} {g : Addr} {mm : List B → Store → R B} {mo : Env → Store → R B} {ma : Env → Store → R (List B)} {x m : Str} {o : Expr} {es : List Expr} {apos pos : Pos} (Fc : CalC X.prog X.w X.K X.mg X.base xc k g mm) (hm : Meth X.K (He.ga X.K x) m g) (c : SlX.SCls X.K (He.ga X.K x))
    (hr : Room k X.A) (hgd : X.A.guards = some []) (tk : Takes X W) (he : PE X o (tM X.K xc W mo)) (ha : PA X es (tML X.K xc W ma)) (hs : es.all notStar = true) (hb : okBase o = true) (hl : (apos.endLine == pos.line) = true) (hn : es.length < 30) (h0 : es = [] → ∀ ρ s, ma ρ s = .ok [] s) :
    PE X (.Call (.Attribute o m apos) es [] pos) (tM X.K xc W fun ρ s => (mo ρ s).bind fun b s => if isOb x b s then (ma ρ s).bind fun bs s => callW mm (b :: bs) s else .bad) := by
  have ht : eval (.Call (.Attribute o m apos) es [] pos) X.env = (do
      let ov ← eval o X.env
      standAt apos.atName
      let (f, first) ← holding [ov] (getMethod ov m (plainOf o X.env))
      callWith pos f first (backTo pos (starEach es X.env)) (backToKw pos (keywordEach [] X.env))) := by
    refine mcall_of (okBase_eq hb) fun ov => mcall_line ?_ hl
    unfold methodCallForm
    rw [notStar_form hs]
    show (true && true && decide (es.length + 0 + 0 < 30)) = true
    rw [decide_eq_true (by omega)]
    rfl
  refine ⟨fun pins s σ H Q I h => ?_⟩
  obtain ⟨F, μ, S, ρ, rel, er, h⟩ := h
  have hE : tM X.K xc W mo σ H fun v H1 => ∃ F1 S1 b, Rel X.K F1 μ S1 H1 ∧ ER X.K F1 μ H1 ρ σ ∧ BRp X.K F1 μ H1 v b ∧ isOb x b S1 = true ∧ okE X.K xc μ W F1 H1 σ ((ma ρ S1).bind fun bs s => callW mm (b :: bs) s) Q :=
    ⟨F, μ, S, ρ, rel, er, okE_bind h fun F1 H1 v b S1 e1 r1 b1 f1 h1 => by
      cases q : isOb x b S1 with
      | false => rw [q] at h1; exact h1.elim
      | true => rw [q] at h1; exact ⟨F1, S1, b, r1, er.step e1, b1, q, h1⟩⟩
  refine PySem.W.methodCall_KW (pl := plainOf o X.env) (thn (he.run pins s σ H _ I hE) fun u s1 ⟨v, H1, I1, rv, F1, S1, b, r1, er1, b1, io, h1⟩ => ?_) ht
  obtain ⟨a, dx, ws, ea, st, _⟩ := isOb_slt r1 b1 io
  subst ea
  obtain rfl : u = Value.ref a := rv
  refine SlX.getmethsl_ok I1 st c hm ?_
  cases es with
  | nil =>
    refine PySem.W.callWith_K0 (first := [.ref a]) I1.kIn hm.kp ?_
    rw [h0 rfl] at h1
    exact Fc.run X W pins σ s1 H1 [.ref a] [.ref a] F1 μ S1 [b] Q rfl rfl rfl rfl rfl hr hgd tk I1 (.cons rfl .nil) r1 (.cons b1 .nil) (callW_ok h1 r1)
  | cons e es =>
    rw [List.all_cons] at hs
    obtain ⟨n1, n2⟩ := Bool.and_eq_true_iff.mp hs
    have hz : tML X.K xc W ma σ H1 fun vs H2 => ∃ F2 S2 bs, Rel X.K F2 μ S2 H2 ∧ BRs X.K F2 μ H2 (.ref a :: vs) (b :: bs) ∧ okE X.K xc μ W F2 H2 σ (callW mm (b :: bs) S2) Q :=
      ⟨F1, μ, S1, ρ, r1, er1, okL_bind h1 fun F2 H2 vs bs S2 e2 r2 b2 h2 => ⟨F2, S2, bs, r2, .cons (b1.step e2) b2, h2⟩⟩
    refine PySem.W.callWith_K (first := [.ref a]) (h₀ := X.base) I1.ok.mod.kin hm.kp (thn (ha.run pos pins s1 σ H1 _ I1 hz) fun us s2 ⟨vs, H2, I2, r, F2, S2, bs, r2, b2, q2⟩ => ⟨I2.kIn, ?_⟩) (starEach_plain n1) (backTo_plain n2)
    exact Fc.run X W pins σ s2 H2 (.ref a :: us) (.ref a :: vs) F2 μ S2 (b :: bs) Q rfl rfl rfl rfl rfl hr hgd tk I2 (.cons rfl r) r2 b2 (callW_ok q2 r2)
end
end Zw
set_option Elab.async false
set_option linter.all false
set_option maxRecDepth 100000
set_option maxHeartbeats 1000000
/-! ZwN: instances that their methods change: what is stored, what is given back. -/
namespace Zw
open PySem PySem.Spec PyProof.Rows L2
section
variable {X : Cx} {K : PySem.W.Frag} {xc : Nat → Option XCls} {W : WX} {F F' H H' F0 H0 F1 H1 : Hp} {μ μ0 : List Addr} {S S1 : Store} {σ : L2.St} {ρ : Env} {G : Gx} {D : Ends}
/-! ### x.f op= e -/
def sSlAug (K : PySem.W.Frag) (ta tv : TE) (f : Str) (rd : V → V → Hp → VK → Prop) : TS := fun D σ H => ta σ H fun x H1 => ∃ a C dx p vs i v, x = .ref a ∧ SlX.Slt H1 a C dx vs ∧ SlX.SCls K C ∧ SlX.Slot1 K C f p i ∧ vs[i]? = some (some v) ∧
  tv σ H1 fun y H2 => rd v y H2 fun z H3 => ∃ dx' vs', SlX.Slt H3 a C dx' vs' ∧ D.nx σ (SlX.slH H3 a C dx' (SlX.putS i z vs'))
theorem ps_slaug {o value : Expr} {f : Str} {tpos pos : Pos} {ta tv : TE} {op : Operator} {rd : V → V → Hp → VK → Prop} (ha : PE X o ta) (hv : PE X value tv) (hop : InOp X op rd) :
    PS X (.AugAssign (.Attribute o f tpos) op value pos) (sSlAug X.K ta tv f rd) := by
  refine ⟨fun pins s σ H D I h => ?_⟩
  refine wpAny_AugAssign_AttributeAny (thn (ha.run pins s σ H _ I h) fun ov s1 ⟨x, Ha, Ia, rx, a, C, dx, p, vs, i, v, ex, st, c, t, l, q⟩ => ?_)
  subst ex
  obtain rfl : ov = Value.ref a := rx
  refine SlX.getslot_ok Ia st c t l fun u s2 I2 ru => ?_
  refine thn (hv.run pins s2 σ Ha _ I2 q) fun w3 s3 ⟨y, Hb, Ib, ry, q3⟩ => ?_
  refine thn (hop pins s3 σ Hb v y u w3 _ Ib ru ry q3) fun w4 s4 ⟨z, Hc, Ic, rz, dx', vs', st', q4⟩ => ?_
  exact SlX.setslot_ok Ic st' c t rz fun s5 I5 => ⟨σ, _, I5, q4⟩
theorem slH_eq {a C dx : Addr} {vs : List (Option V)} (h : H dx = some (.xd [])) : SlX.slH H a C dx vs = upd H a (SlX.SlO a C dx vs) := by
  unfold SlX.slH
  congr 1
  funext b
  by_cases q : b = dx
  · rw [q, upd_same, h]
  · rw [upd_ne q]
theorem putS_set {i : Nat} {v : V} {ws : List V} (h : i < ws.length) : SlX.putS i v (ws.map some) = (ws.set i v).map some := by
  unfold SlX.putS
  rw [List.length_map, show i + 1 - ws.length = 0 by omega, List.replicate_zero, List.append_nil, List.map_set]
/-- a tree is stored in an instance at a place of the store -/
theorem SR.updOb {k i : Nat} {a dx : Addr} {x : Str} {fs : List FB} {ws : List V} {w : V} {d : Zw.D} (s : SR K F0 μ0 H0 F μ S H ρ σ) (hk : μ[k]? = some a) (hS : S[k]? = some (.obj x fs)) (hH : H a = some (SlX.SlO a (He.ga K x) dx (ws.map some)))
    (hd : F dx = some (.xd [])) (cl : SlC K x) (fb : FbL K F (μ.take k) ws fs) (rw_ : Rp K F w d) (hi : i < ws.length) :
    SR K F0 μ0 H0 F μ (S.set k (.obj x (fs.set i (.t d)))) (SlX.slH H a (He.ga K x) dx (SlX.putS i w (ws.map some))) ρ σ := by
  rw [slH_eq (s.rel.sub _ _ hd), putS_set hi]
  have ha : a ∈ μ := List.mem_of_getElem? hk
  have lk : k < S.length := (List.getElem?_eq_some_iff.mp hS).1
  have pl : Pl a (SlX.SlO a (He.ga K x) dx (ws.map some)) := pl_slO
  have pl2 : NT (SlX.SlO a (He.ga K x) dx ((ws.set i w).map some)) := (pl_slO (a := a)).1
  have apart : ∀ (j : Nat) (b : Addr), μ[j]? = some b → j ≠ k → b ≠ a := fun j b e q z => by
    subst z
    obtain ⟨l1, q1⟩ := List.getElem?_eq_some_iff.mp e
    obtain ⟨l2, q2⟩ := List.getElem?_eq_some_iff.mp hk
    exact q ((List.getElem_inj s.rel.nd).mp (q1.trans q2.symm))
  refine ⟨⟨fun b o e => ?_, by rw [List.length_set]; exact s.rel.len, s.rel.nd, fun j b zs e1 e2 => ?_, s.rel.dis, s.rel.ft, tabs_upd2 s.rel.tab (fun u e => by rw [hH] at e; cases e; exact pl), fun j b y gs e1 e2 => ?_⟩, ⟨s.er.len, fun j c e => ?_, s.er.sep⟩, ⟨s.ext.fs, s.ext.fn, fun b o e n m => ?_, fun b e => ?_⟩, s.pre, s.own⟩
  · have q : b ≠ a := fun z => by rw [z, s.rel.dis a ha] at e; cases e
    rw [upd_ne q]; exact s.rel.sub b o e
  · by_cases q : j = k
    · subst q
      rw [List.getElem?_set_self lk] at e2
      cases e2
    · rw [List.getElem?_set_ne (Ne.symm q)] at e2
      obtain ⟨ys, h1, h2⟩ := s.rel.obj j b zs e1 e2
      exact ⟨ys, by rw [upd_ne (apart j b e1 q)]; exact h1, h2⟩
  · by_cases q : j = k
    · subst q
      rw [hk] at e1
      cases e1
      rw [List.getElem?_set_self lk] at e2
      cases e2
      exact ⟨dx, ws.set i w, upd_same, hd, cl, fb.set rw_ i⟩
    · rw [List.getElem?_set_ne (Ne.symm q)] at e2
      exact (s.rel.ob2 j b y gs e1 e2).to (fun _ _ h => h) (fun _ _ h => h) fun o _ h => by rw [upd_ne (apart j b e1 q)]; exact h
  · obtain ⟨u, hw, bw⟩ := s.er.val j c e
    refine ⟨u, hw, ?_⟩
    have own' : ∀ (d : Zw.D), OwnAt K F μ H u d → OwnAt K F μ (upd H a (SlX.SlO a (He.ga K x) dx ((ws.set i w).map some))) u d := fun d ⟨c, zs, es, e1, e2, hc, rc, nc, mc⟩ =>
      ⟨c, zs, es, e1, e2, by rw [upd_ne (fun z => mc (by rw [z]; exact ha))]; exact hc, rc, nc, mc⟩
    cases c with
    | t d => exact bw
    | own d => exact own' d bw
    | bor d => exact own' d bw
    | sc d =>
      obtain ⟨c, zs, es, e1, e2, hc, rc⟩ := bw
      exact ⟨c, zs, es, e1, e2, hc.to fun o h mc => ⟨by rw [upd_ne (fun z => mc (by rw [z]; exact ha))]; exact h, mc⟩, rc⟩
    | r k => exact bw
  · by_cases q : b = a
    · subst q
      obtain ⟨ν, e1, hν⟩ := s.pre
      rw [e1] at ha
      rcases List.mem_append.mp ha with ha | ha
      · exact absurd ha m
      · exact (hν b ha o e n).elim
    · rw [upd_ne q]; exact s.ext.keep b o e n m
  · exact gone_upd (s.ext.live b e) pl2
theorem s_augAtt {i f : Nat} {x fn : Str} {op : Op2} {o e : Expr} {c : CE} {tpos pos : Pos} {pd : Addr} (hop : augOk op = true) (ho : PE X o (tVar i)) (he : PE X e (tM X.K xc W (ev G c))) (sl : SlX.Slot1 X.K (He.ga X.K x) fn pd f) :
    PS X (.AugAssign (.Attribute o fn tpos) (opOf op) e pos) (tMS X.K xc W (exec G (.augAtt i x f op c))) := by
  have main : ∀ (g : Int → Int → Int), InOp X (opOf op) (fun x y H Q => ∃ i j, x = .int i ∧ y = .int j ∧ Q (.int (g i j)) H) → (∀ a b z, op2 op a b = some (.t (.int z)) → ∃ m n, a = .int m ∧ b = .int n ∧ z = g m n) → PS X (.AugAssign (.Attribute o fn tpos) (opOf op) e pos) (tMS X.K xc W (exec G (.augAtt i x f op c))) := by
    intro g hin hg
    refine PS.weak (ps_slaug ho he hin) fun De σ H ⟨F0, μ0, H0, F, μ, S, ρ, s, h⟩ => ?_
    rw [exec] at h
    cases q : ρ[i]? with
    | none => rw [q] at h; exact h.elim
    | some oo => cases oo with
      | none => rw [q] at h; exact h.elim
      | some b => cases b with
        | r k =>
          rw [q] at h
          dsimp only at h
          obtain ⟨v, h1, h2⟩ := s.er.val i _ q
          cases q2 : obAt x k S with
          | none => rw [q2] at h; exact h.elim
          | some fs =>
            rw [q2] at h
            obtain ⟨a, dx, ws, ea, hk, st, cl, fb, hdx, hS⟩ := ob_at s.rel h2 q2
            subst ea
            have h : okSt X.K xc F0 μ0 H0 W De (match fs[f]? with
              | some (.t a) => (ev G c ρ S).to ρ fun y s => match (y.peek s).bind (op2 op a), obAt x k s with
                | some (.t (.int z)), some fs => match fs[f]? with
                  | some (.t _) => .nx ρ (s.set k (.obj x (fs.set f (.t (.int z)))))
                  | _ => .bad
                | _, _ => .bad
              | _ => .bad) := h
            cases q3 : fs[f]? with
            | none => rw [q3] at h; exact h.elim
            | some fb1 => cases fb1 with
              | r j => rw [q3] at h; exact h.elim
              | t d =>
                rw [q3] at h
                obtain ⟨w, hw, bw⟩ := fb.get q3
                refine ⟨.ref a, h1, a, _, dx, pd, _, f, w, rfl, st, cl.cls, sl, by rw [List.getElem?_map, hw]; rfl, F, μ, S, ρ, s.rel, s.er, toE (g := fun y s => match (y.peek s).bind (op2 op d), obAt x k s with
                | some (.t (.int z)), some fs => match fs[f]? with
                  | some (.t _) => .nx ρ (s.set k (.obj x (fs.set f (.t (.int z)))))
                  | _ => .bad
                | _, _ => .bad) s h fun F1 H1 y bY S1 e1 s1 bv fr h3 => ?_⟩
                cases q4 : (bY.peek S1).bind (op2 op d) with
                | none => simp only [q4] at h3; exact h3.elim
                | some z => cases z with
                  | t z => cases z with
                    | int z =>
                      simp only [q4] at h3
                      cases q5 : obAt x k S1 with
                      | none => simp only [q5] at h3; exact h3.elim
                      | some gs =>
                        simp only [q5] at h3
                        obtain ⟨a2, dx2, ws2, ea2, hk2, st2, cl2, fb2, hdx2, hS2⟩ := ob_at s1.rel (BRp.step e1 h2) q5
                        cases ea2
                        obtain ⟨dy, p2, p3⟩ := Option.bind_eq_some_iff.mp q4
                        obtain ⟨m, n, rfl, rfl, rfl⟩ := hg _ _ _ p3
                        have bw : Rp X.K F w (.int m) := bw
                        refine ⟨m, n, rp_int bw, lk_int s1.rel bv (look_of_peek p2), ?_⟩
                        cases q6 : gs[f]? with
                        | none => rw [q6] at h3; exact h3.elim
                        | some g1 => cases g1 with
                          | r j => rw [q6] at h3; exact h3.elim
                          | t d2 =>
                            rw [q6] at h3
                            have hfl : f < ws2.length := by rw [fb2.length]; exact (List.getElem?_eq_some_iff.mp q6).1
                            rcases st2 with ⟨st2, ez⟩ | ⟨st2, st3⟩
                            · have : ws2 = [] := by simpa using ez
                              subst this
                              simp at hfl
                            · exact ⟨_, _, .inr ⟨st2, st3⟩, h3 F1 μ _ σ (s1.updOb hk2 hS2 st2 hdx2 cl2 fb2 (.int _) hfl)⟩
                    | _ => simp only [q4] at h3; exact h3.elim
                  | _ => simp only [q4] at h3; exact h3.elim
        | _ => rw [q] at h; exact h.elim
  cases op with
  | add =>
    refine main (fun a b => a + b) in_add fun a b z h => ?_
    have h : opAdd a b = some (.t (.int z)) := h
    unfold opAdd at h
    split at h
    · cases h; exact ⟨_, _, rfl, rfl, rfl⟩
    · split at h <;> cases h
    · split at h <;> cases h
    · split at h <;> cases h
    · cases h
  | sub =>
    refine main (fun a b => a - b) in_sub fun a b z h => ?_
    have h : opSub a b = some (.t (.int z)) := h
    unfold opSub at h
    split at h
    · cases h; exact ⟨_, _, rfl, rfl, rfl⟩
    · cases h
  | _ => cases hop
/-! ### objects given back -/
theorem fbl_of : ∀ {vs : List V} {bs : List B} {os : List FB}, BRs K F μ H vs bs → roBs bs = some os → FbL K F μ vs os
  | _, _, os, .nil, e => by cases e; exact .nil
  | _, _, os, .cons (b := b) (bs := bs) h r, e => by
    unfold roBs at e
    cases q : roBs bs with
    | none => rw [q] at e; cases b <;> cases e
    | some os' =>
      rw [q] at e
      cases b with
      | t d => cases e; exact .t h (fbl_of r q)
      | r k =>
        cases e
        obtain ⟨a, ea, ha⟩ := h
        subst ea
        exact .r ha (fbl_of r q)
      | _ => cases e
theorem exec_retO {w : Bool} {cs : List CE} : exec G (.retO w cs) ρ S = (evl G cs (Zw.still ρ) S).to (Zw.still ρ) fun bs s => match roBs bs with
      | some os => if (if w then decide (os.length ≤ line) else os.length == 1) then .ro os w s else .bad
      | none => .bad := by
  rw [exec]
  first | done | rfl
theorem s_retO2 {es : List Expr} {cs : List CE} {x1} {p2 pos : Pos} (ha : PA X es (tML X.K xc W (evl G cs))) : PS X (.Return (some (.Tuple es x1 p2)) pos) (tMS X.K xc W (exec G (.retO true cs))) :=
  PS.weak (ps_ret (pe_tup ha)) fun De σ H ⟨F0, μ0, H0, F, μ, S, ρ, s, h⟩ => by
    rw [exec_retO] at h
    obtain ⟨F', s', sF⟩ := s.still
    refine ⟨F', μ, S, Zw.still ρ, s'.rel, s'.er, ?_⟩
    cases q : evl G cs (Zw.still ρ) S with
    | bad => rw [q] at h; exact h.elim
    | ex c p S1 => rw [q] at h; exact fun F1 H1 cls d e r1 x => h F1 μ H1 σ cls d (s'.step e r1) x
    | ok bs S1 =>
      rw [q] at h
      intro F1 H1 vs e1 r1 bvs
      have s1 := s'.step e1 r1
      have h : okSt X.K xc F0 μ0 H0 W De (match roBs bs with
        | some os => if (if true then decide (os.length ≤ line) else os.length == 1) then .ro os true S1 else .bad
        | none => .bad) := h
      cases q2 : roBs bs with
      | none => rw [q2] at h; exact h.elim
      | some os =>
        rw [q2] at h
        have fb := fbl_of bvs q2
        by_cases l : os.length ≤ line
        · have h : okSt X.K xc F0 μ0 H0 W De (.ro os true S1) := by simpa [l] using h
          refine ⟨by rw [fb.length, ← line_eq]; exact l, fun p hp => ?_⟩
          exact h _ μ _ _ (r1.new hp nt_tup) (s1.ext.under s1.pre (Ext.new r1.sub hp nt_tup)) s1.pre ⟨p, vs, rfl, upd_same, fb.to (Ext.new (μ := μ) r1.sub hp nt_tup).fs fun _ _ h => h⟩
        · have h : okSt X.K xc F0 μ0 H0 W De .bad := by simpa [l] using h
          exact h.elim
theorem s_retO1 {e : Expr} {c : CE} {pos : Pos} (he : PE X e (tM X.K xc W (ev G c))) : PS X (.Return (some e) pos) (tMS X.K xc W (exec G (.retO false [c]))) :=
  PS.weak (ps_ret he) fun De σ H ⟨F0, μ0, H0, F, μ, S, ρ, s, h⟩ => by
    rw [exec_retO] at h
    obtain ⟨F', s', sF⟩ := s.still
    refine ⟨F', μ, S, Zw.still ρ, s'.rel, s'.er, okE_still ?_⟩
    rw [show evl G [c] (Zw.still ρ) S = (ev G c (Zw.still ρ) S).bind fun x s => .ok [x.still] s by
      rw [evl]
      cases ev G c (Zw.still ρ) S <;> rfl] at h
    cases q : ev G c (Zw.still ρ) S with
    | bad => rw [q] at h; exact h.elim
    | ex cc p S1 => rw [q] at h; exact fun F1 H1 cls d e r1 x => h F1 μ H1 σ cls d (s'.step e r1) x
    | ok b S1 =>
      rw [q] at h
      intro F1 H1 v e1 r1 bv _
      have s1 := s'.step e1 r1
      have h : okSt X.K xc F0 μ0 H0 W De (match roBs [b.still] with
        | some os => if (if false then decide (os.length ≤ line) else os.length == 1) then .ro os false S1 else .bad
        | none => .bad) := h
      cases q2 : roBs [b.still] with
      | none => rw [q2] at h; exact h.elim
      | some os =>
        rw [q2] at h
        have fb := fbl_of (.cons bv .nil) q2
        have hl : os.length = 1 := by rw [← fb.length]; rfl
        have h : okSt X.K xc F0 μ0 H0 W De (.ro os false S1) := by simpa [hl] using h
        exact h _ μ _ _ r1 s1.ext s1.pre fb
end
end Zw
set_option Elab.async false
set_option linter.all false
set_option maxRecDepth 100000
set_option maxHeartbeats 1000000
/-! ZwP: instances that their methods change: how they are made. -/
namespace Zw
open PySem PySem.Spec PyProof.Rows L2
section
variable {K : PySem.W.Frag} {F F' H H' F0 H0 F1 H1 : Hp} {μ : List Addr} {S S' S1 : Store} {x dx C : Addr} {vs : List (Option V)} {os : List (Option (Bool × D))}
/-- a tree, or a new list of its own -/
def OwV (K : PySem.W.Frag) (F : Hp) (μ : List Addr) (H0 H : Hp) (v : V) : Bool × D → Prop
  | (false, d) => Rp K F v d
  | (true, d) => OwnAt K F μ H v d ∧ ∀ a, v = .ref a → Gone H0 a
structure ROO (K : PySem.W.Frag) (F : Hp) (μ : List Addr) (H0 H : Hp) (vs : List (Option V)) (os : List (Option (Bool × D))) : Prop where
  len : vs.length = os.length
  val : ∀ (i : Nat) (q : Bool × D), os[i]? = some (some q) → ∃ v, vs[i]? = some (some v) ∧ OwV K F μ H0 H v q
  sep : ∀ (i j : Nat) (d e : D) (v : V), i ≠ j → os[i]? = some (some (true, d)) → os[j]? = some (some (true, e)) → vs[i]? = some (some v) → vs[j]? ≠ some (some v)
theorem OwV.step {v : V} {q : Bool × D} (x : Ext μ F H F' H') (h : OwV K F μ H0 H v q) : OwV K F' μ H0 H' v q := by
  obtain ⟨b, d⟩ := q
  cases b with
  | false => exact Rp.mono x.fs h
  | true => exact ⟨OwnAt.step x h.1, h.2⟩
theorem ROO.step (x : Ext μ F H F' H') (h : ROO K F μ H0 H vs os) : ROO K F' μ H0 H' vs os :=
  ⟨h.len, fun i q e => let ⟨v, h1, h2⟩ := h.val i q e; ⟨v, h1, h2.step x⟩, h.sep⟩
theorem putO_get {α : Type} {i j : Nat} {d q : α} {os : List (Option α)} (h : (putO i d os)[j]? = some (some q)) : (j = i ∧ q = d) ∨ (j ≠ i ∧ os[j]? = some (some q)) := by
  unfold putO at h
  by_cases e : j = i
  · subst e
    rw [List.getElem?_set_self (by simp; omega)] at h
    cases h
    exact .inl ⟨rfl, rfl⟩
  · rw [List.getElem?_set_ne (Ne.symm e)] at h
    refine .inr ⟨e, ?_⟩
    by_cases l : j < os.length
    · rw [List.getElem?_append_left l] at h; exact h
    · rw [List.getElem?_append_right (by omega), List.getElem?_replicate] at h
      split at h <;> cases h
/-- what H holds besides is not touched by a store in self -/
theorem OwV.away {v : V} {q : Bool × D} (h : OwV K F μ H0 H v q) (k : ∀ b xs, H b = some (.lst xs) → H' b = some (.lst xs)) : OwV K F μ H0 H' v q := by
  obtain ⟨b, d⟩ := q
  cases b with
  | false => exact h
  | true =>
    obtain ⟨⟨a, xs, ds, e, ed, ha, r, n, m⟩, g⟩ := h
    exact ⟨⟨a, xs, ds, e, ed, k a xs ha, r, n, m⟩, g⟩
theorem ROO.put {v : V} {q : Bool × D} {i : Nat} (h : ROO K F μ H0 H vs os) (hv : OwV K F μ H0 H v q) (hs : ∀ (j : Nat) (d e : D), q = (true, d) → os[j]? = some (some (true, e)) → vs[j]? ≠ some (some v)) : ROO K F μ H0 H (SlX.putS i v vs) (putO i q os) := by
  refine ⟨?_, fun j p e => ?_, fun j k d e w n e1 e2 e3 => ?_⟩
  · unfold SlX.putS putO
    rw [List.length_set, List.length_set, List.length_append, List.length_append, List.length_replicate, List.length_replicate, h.len]
  · rcases putO_get e with ⟨rfl, rfl⟩ | ⟨n, e⟩
    · exact ⟨v, SlX.putS_get _ _ _, hv⟩
    · obtain ⟨w, h1, h2⟩ := h.val j p e
      exact ⟨w, (SlX.putS_ne n).mpr h1, h2⟩
  · rcases putO_get e1 with ⟨rfl, q1⟩ | ⟨n1, e1⟩
    · rcases putO_get e2 with ⟨z, _⟩ | ⟨n2, e2⟩
      · exact absurd z.symm n
      · rw [SlX.putS_get] at e3
        cases e3
        exact fun z => hs k d e q1.symm e2 ((SlX.putS_ne n2).mp z)
    · have e4 := (SlX.putS_ne n1).mp e3
      rcases putO_get e2 with ⟨rfl, q2⟩ | ⟨n2, e2⟩
      · rw [SlX.putS_get]
        intro z
        cases z
        exact hs j e d q2.symm (by assumption) e4
      · exact fun z => h.sep j k d e w n (by assumption) e2 e4 ((SlX.putS_ne n2).mp z)
/-- self while it is made -/
structure MO (K : PySem.W.Frag) (F0 H0 : Hp) (μ : List Addr) (F H : Hp) (S : Store) (x dx C : Addr) (vs : List (Option V)) (os : List (Option (Bool × D))) : Prop where
  rel : Rel K F μ S H
  ext : Ext μ F0 H0 F H
  sl : SlX.Slt H x C dx vs
  ld : ∃ o, H dx = some o ∧ Pl dx o ∧ ∀ xs, o ≠ .lst xs
  ro : ROO K F μ H0 H vs os
  gx : Gone H0 x
  gd : Gone H0 dx
  fx : F x = none
  fd : F dx = none
  mx : x ∉ μ
  md : dx ∉ μ
  ne : dx ≠ x
theorem slt_pl2 (h : SlX.Slt H x C dx vs) : ∃ o, H x = some o ∧ Pl x o ∧ ∀ xs, o ≠ .lst xs := by
  rcases h with ⟨h, _⟩ | ⟨h, _⟩
  · exact ⟨_, h, pl_ins, fun _ z => by cases z⟩
  · exact ⟨_, h, pl_slO, fun _ z => by unfold SlX.SlO at z; cases z⟩
theorem MO.step (m : MO K F0 H0 μ F H S x dx C vs os) (e : Ext μ F H F' H') (r : Rel K F' μ S' H') : MO K F0 H0 μ F' H' S' x dx C vs os := by
  obtain ⟨o, ho, po, no⟩ := m.ld
  obtain ⟨u, hu, pu, _⟩ := slt_pl2 m.sl
  refine ⟨r, m.ext.trans e, ?_, ⟨o, e.keep _ _ ho po.1 m.md, po, no⟩, m.ro.step e, m.gx, m.gd, (e.fn x (lv hu pu.1)).trans m.fx, (e.fn dx (lv ho po.1)).trans m.fd, m.mx, m.md, m.ne⟩
  rcases m.sl with ⟨h, z⟩ | ⟨h, h2⟩
  · exact .inl ⟨e.keep _ _ h (pl_ins (a := x)).1 m.mx, z⟩
  · exact .inr ⟨e.keep _ _ h (pl_slO (a := x)).1 m.mx, e.keep _ _ h2 (pl_xd (a := x)).1 m.md⟩
theorem MO.put {v : V} {q : Bool × D} {i : Nat} (m : MO K F0 H0 μ F H S x dx C vs os) (hv : OwV K F μ H0 H v q) (hs : ∀ (j : Nat) (d e : D), q = (true, d) → os[j]? = some (some (true, e)) → vs[j]? ≠ some (some v)) :
    MO K F0 H0 μ F (SlX.slH H x C dx (SlX.putS i v vs)) S x dx C (SlX.putS i v vs) (putO i q os) := by
  obtain ⟨o, ho, po, no⟩ := m.ld
  obtain ⟨u, hu, pu, nu⟩ := slt_pl2 m.sl
  have r1 : Rel K F μ S (upd H dx (.xd [])) := m.rel.put2 m.fd m.md fun u e => by rw [ho] at e; cases e; exact po
  have hx : upd H dx (.xd []) x = some u := by rw [upd_ne (Ne.symm m.ne)]; exact hu
  have r2 : Rel K F μ S (upd (upd H dx (.xd [])) x (SlX.SlO x C dx (SlX.putS i v vs))) := r1.put2 m.fx m.mx fun u e => by rw [hx] at e; cases e; exact pu
  have ro := m.ro.put (i := i) hv hs
  have kp : ∀ b xs, H b = some (.lst xs) → SlX.slH H x C dx (SlX.putS i v vs) b = some (.lst xs) := fun b xs e => by
    rw [SlX.slH_ne]
    · exact e
    · intro z; subst z; rw [hu] at e; cases e; exact nu _ rfl
    · intro z; subst z; rw [ho] at e; cases e; exact no _ rfl
  exact ⟨r2, (m.ext.put m.gd (pl_xd (a := x)).1).put m.gx (pl_slO (a := x)).1, SlX.slH_slt m.ne, ⟨.xd [], by unfold SlX.slH; rw [upd_ne m.ne, upd_same], pl_xd, fun _ z => by cases z⟩,
    ⟨ro.len, fun j p e => let ⟨w, h1, h2⟩ := ro.val j p e; ⟨w, h1, h2.away kp⟩, ro.sep⟩, m.gx, m.gd, m.fx, m.fd, m.mx, m.md, m.ne⟩
/-- a new instance with lists of its own -/
def NewO (K : PySem.W.Frag) (F : Hp) (μ : List Addr) (H0 H : Hp) (a : Addr) (y : Str) (fs : List (Bool × D)) : Prop :=
  ∃ (dx : Addr) (ws : List V), H a = some (SlX.SlO a (He.ga K y) dx (ws.map some)) ∧ F dx = some (.xd []) ∧ SlC K y ∧ Gone H0 a ∧ F a = none ∧ a ∉ μ ∧ ROO K F μ H0 H (ws.map some) (fs.map some)
theorem allO_map {α : Type} : ∀ {os : List (Option α)} {fs : List α}, allO os = some fs → os = fs.map some
  | [], fs, h => by cases h; rfl
  | none :: _, fs, h => by cases h
  | some d :: r, fs, h => by
    rw [allO] at h
    cases q : allO r with
    | none => rw [q] at h; cases h
    | some gs =>
      rw [q] at h
      cases h
      rw [allO_map q]
      rfl
theorem ROO.all {fs : List (Bool × D)} (h : ROO K F μ H0 H vs (fs.map some)) : ∃ ws : List V, vs = ws.map some := by
  refine ⟨vs.filterMap id, List.ext_getElem? fun i => ?_⟩
  have all : ∀ o ∈ vs, ∃ v, o = some v := fun o ho => by
    obtain ⟨i, hi⟩ := List.mem_iff_getElem?.mp ho
    have l : i < fs.length := by
      have := (List.getElem?_eq_some_iff.mp hi).1
      rw [h.len] at this
      simpa using this
    obtain ⟨v, h1, _⟩ := h.val i fs[i] (by rw [List.getElem?_map, List.getElem?_eq_getElem l]; rfl)
    rw [hi] at h1
    cases h1
    exact ⟨v, rfl⟩
  have key : ∀ l : List (Option V), (∀ o ∈ l, ∃ v, o = some v) → l = (l.filterMap id).map some := fun l => by
    induction l with
    | nil => intro _; rfl
    | cons o l ih =>
      intro hl
      obtain ⟨v, rfl⟩ := hl o List.mem_cons_self
      rw [List.filterMap_cons]
      show some v :: l = some v :: (l.filterMap id).map some
      rw [← ih fun o ho => hl o (List.mem_cons_of_mem _ ho)]
  exact congrArg (fun l => l[i]?) (key vs all)
theorem MO.done {y : Str} {fs : List (Bool × D)} (m : MO K F0 H0 μ F H S x dx (He.ga K y) vs os) (hn : fs ≠ []) (c : SlC K y) (h : allO os = some fs) :
    ∃ F', Ext μ F0 H0 F' H ∧ Rel K F' μ S H ∧ NewO K F' μ H0 H x y fs := by
  have eo := allO_map h
  subst eo
  obtain ⟨ws, rfl⟩ := m.ro.all
  rcases m.sl with ⟨_, z⟩ | ⟨h1, h2⟩
  · have e := m.ro.len
    rw [z] at e
    have : fs.length = 0 := by simpa using e.symm
    exact absurd (List.length_eq_zero_iff.mp this) hn
  · have n1 : ∀ a u, F a = some u → a ≠ dx := fun a u e z => by rw [z, m.fd] at e; cases e
    have sF : Same F (upd F dx (.xd [])) := fun a u e => by rw [upd_ne (n1 a u e)]; exact e
    refine ⟨upd F dx (.xd []), ⟨fun a u e => sF a u (m.ext.fs a u e), fun a g => ?_, m.ext.keep, m.ext.live⟩, ⟨fun a u e => ?_, m.rel.len, m.rel.nd, fun k a xs e1 e2 => ?_, fun a ha => ?_, fun a u e => ?_, m.rel.tab, fun k a y fs e1 e2 => (m.rel.ob2 k a y fs e1 e2).to sF (fun _ _ h => h) fun _ _ h => h⟩,
      dx, ws, h1, upd_same, c, m.gx, by rw [upd_ne (Ne.symm m.ne)]; exact m.fx, m.mx, m.ro.len, fun i q e => ?_, m.ro.sep⟩
    · rw [upd_ne (goneNe g m.gd)]
      exact m.ext.fn a g
    · by_cases q2 : a = dx
      · rw [q2, upd_same] at e; cases e; rw [q2]; exact h2
      · rw [upd_ne q2] at e; exact m.rel.sub a u e
    · obtain ⟨vs, k1, k2⟩ := m.rel.obj k a xs e1 e2
      exact ⟨vs, k1, k2.mono sF⟩
    · rw [upd_ne (fun z => m.md (by rw [← z]; exact ha))]
      exact m.rel.dis a ha
    · by_cases q2 : a = dx
      · rw [q2, upd_same] at e; cases e; exact (pl_xd (a := x)).1
      · rw [upd_ne q2] at e; exact m.rel.ft a u e
    · obtain ⟨v, h3, h4⟩ := m.ro.val i q e
      refine ⟨v, h3, ?_⟩
      obtain ⟨b, d⟩ := q
      cases b with
      | false => exact Rp.mono sF h4
      | true =>
        obtain ⟨⟨a, xs, ds, e1, e2, e3, e4, e5, e6⟩, g⟩ := h4
        refine ⟨⟨a, xs, ds, e1, e2, e3, e4.mono sF, ?_, e6⟩, g⟩
        rw [upd_ne]
        · exact e5
        · intro z
          rw [z, h2] at e3
          cases e3
end
/-! ### __init__ -/
section
variable {K : PySem.W.Frag} {xc : Nat → Option XCls} {W : WX} {F0 H0 : Hp} {μ : List Addr} {σ : L2.St} {ρ : Env} {x dx C : Addr} {G : Gx} {X : Cx}
def okInO (K : PySem.W.Frag) (xc : Nat → Option XCls) (F0 H0 : Hp) (μ : List Addr) (W : WX) (x dx C : Addr) (De : Ends) (σ : L2.St) (r : R (List (Option (Bool × D)))) : Prop := match r with
  | .ok os S' => ∀ F H vs, MO K F0 H0 μ F H S' x dx C vs os → De.nx σ H
  | .ex c p S' => ∀ F H vs os cls d, MO K F0 H0 μ F H S' x dx C vs os → XR K xc F H c p cls d → W cls d σ H
  | .bad => False
def tInO (K : PySem.W.Frag) (xc : Nat → Option XCls) (F0 H0 : Hp) (μ : List Addr) (W : WX) (x dx C : Addr) (σ : L2.St) (m : List (Option (Bool × D)) → Store → R (List (Option (Bool × D)))) : TS := fun De σ' H =>
  σ' = σ ∧ ∃ F S vs os, MO K F0 H0 μ F H S x dx C vs os ∧ okInO K xc F0 H0 μ W x dx C De σ (m os S)
theorem o_nil : PSs X [] (tInO K xc F0 H0 μ W x dx C σ (evSets G [] ρ)) := PSs.weak pss_nil fun De σ' H ⟨e, F, S, vs, os, m, h⟩ => by
  subst e
  exact h F H vs m
theorem o_set {e v : Expr} {f : Str} {i : Nat} {c : CE} {rest : List Stmt} {p : Addr} {sets : List (Nat × CE)} {pos pos' : Pos} (er : ER X.K F0 μ H0 ρ σ) (he : PE X e (tVar 0)) (hv : PE X v (tM X.K xc W (ev G c))) (h0 : σ[0]? = some (some (.ref x))) (cl : SlX.SCls X.K C) (sl : SlX.Slot1 X.K C f p i)
    (hw : swapsWith v (some (.Attribute e f pos')) pos.line X.env = pure false) (h2 : PSs X rest (tInO X.K xc F0 H0 μ W x dx C σ (evSets G sets ρ))) :
    PSs X (.Assign [.Attribute e f pos'] v pos :: rest) (tInO X.K xc F0 H0 μ W x dx C σ (evSets G ((i, c) :: sets) ρ)) :=
  PSs.weak (pss_cons (SlX.ps_sl he hv hw) h2) fun De σ' H ⟨e1, F, S, vs, os, m, h⟩ => by
    subst e1
    rw [show evSets G ((i, c) :: sets) ρ os S = (ev G c ρ S).bind fun b s => match obB b with
      | some q => evSets G sets ρ (putO i q os) s
      | none => .bad from rfl] at h
    refine ⟨F, μ, S, ρ, m.rel, er.step m.ext, ?_⟩
    cases q : ev G c ρ S with
    | bad => rw [q] at h; exact h.elim
    | ex cc p S1 =>
      rw [q] at h
      exact fun F' H' cls d e r xr => h F' H' vs os cls d (m.step e r) xr
    | ok b S1 =>
      rw [q] at h
      intro F' H' w e r bv fr
      have m1 := m.step e r
      have h : okInO X.K xc F0 H0 μ W x dx C De σ' (match obB b with
        | some q => evSets G sets ρ (putO i q os) S1
        | none => .bad) := h
      refine ⟨.ref x, h0, x, C, dx, p, vs, i, rfl, m1.sl, cl, sl, rfl, F', S1, SlX.putS i w vs, ?_⟩
      cases b with
      | t d => exact ⟨_, m1.put (q := (false, d)) bv (fun _ _ _ z => by cases z), h⟩
      | own d =>
        cases d with
        | lst xs =>
          refine ⟨_, m1.put (q := (true, .lst xs)) ⟨bv, fun a ea => m.ext.back (fr a ea)⟩ (fun j d e' _ ej z => ?_), h⟩
          obtain ⟨v2, hv2, ⟨a2, xs2, ds2, e2, _, ha2, _⟩, _⟩ := m.ro.val j _ ej
          rw [z] at hv2
          cases hv2
          exact lvL ha2 (fr a2 e2)
        | _ => exact h.elim
      | _ => exact h.elim
end
end Zw
set_option Elab.async false
set_option linter.all false
set_option maxRecDepth 100000
set_option maxHeartbeats 1000000
/-! ZwQ: instances that their methods change: a name is given a new one. -/
namespace Zw
open PySem PySem.Spec PyProof.Rows L2
section
variable {X : Cx} {K : PySem.W.Frag} {xc : Nat → Option XCls} {W : WX} {F F' H H' F0 H0 F1 H1 : Hp} {μ μ0 : List Addr} {S S1 : Store} {σ : L2.St} {ρ : Env} {G : Gx} {D : Ends}
/-! ### the store grows -/
def OR (K : PySem.W.Frag) (F : Hp) (μ : List Addr) (H : Hp) (b : Addr) : O → Prop
  | .lst xs => ∃ vs, H b = some (.lst vs) ∧ RpL K F vs xs
  | .obj y fs => ObR K F μ H b y fs
theorem Rel.push {b : Addr} {o : O} (r : Rel K F μ S H) (hm : b ∉ μ) (hF : F b = none) (ho : OR K F μ H b o) : Rel K F (μ ++ [b]) (S ++ [o]) H := by
  have hl := r.len
  refine ⟨r.sub, by simp [hl], ?_, fun k c ys e1 e2 => ?_, fun c hc => ?_, r.ft, r.tab, fun k c x fs e1 e2 => ?_⟩
  · refine List.nodup_append.mpr ⟨r.nd, by simp, fun x hx y hy => ?_⟩
    rw [List.mem_singleton.mp hy]
    exact fun z => hm (by rw [← z]; exact hx)
  · by_cases l : k < S.length
    · rw [List.getElem?_append_left (by omega)] at e1
      rw [List.getElem?_append_left l] at e2
      exact r.obj k c ys e1 e2
    · have hk : k = S.length := by
        have := (List.getElem?_eq_some_iff.mp e2).1
        simp at this
        omega
      subst hk
      rw [← hl, List.getElem?_append_right (Nat.le_refl _), Nat.sub_self] at e1
      rw [List.getElem?_append_right (Nat.le_refl _), Nat.sub_self] at e2
      cases e1
      cases e2
      exact ho
  · rcases List.mem_append.mp hc with hc | hc
    · exact r.dis c hc
    · rw [List.mem_singleton.mp hc]; exact hF
  · by_cases l : k < S.length
    · rw [List.getElem?_append_left (by omega)] at e1
      rw [List.getElem?_append_left l] at e2
      refine (r.ob2 k c x fs e1 e2).to (fun _ _ h => h) (fun j c e => ?_) fun _ _ h => h
      rw [List.take_append_of_le_length (by omega)]
      exact e
    · have hk : k = S.length := by
        have := (List.getElem?_eq_some_iff.mp e2).1
        simp at this
        omega
      subst hk
      rw [← hl, List.getElem?_append_right (Nat.le_refl _), Nat.sub_self] at e1
      rw [List.getElem?_append_right (Nat.le_refl _), Nat.sub_self] at e2
      cases e1
      cases e2
      rw [← hl, List.take_left' rfl]
      exact ho
theorem SR.push {b : Addr} {o : O} (s : SR K F0 μ0 H0 F μ S H ρ σ) (r : Rel K F (μ ++ [b]) (S ++ [o]) H) (h0 : Gone H0 b) (hz : ∀ o u, H b ≠ some (.frz o u)) (hown : ∀ (j : Nat) (d : Zw.D), (ρ[j]? = some (some (B.own d)) ∨ ρ[j]? = some (some (B.bor d))) → σ[j]? ≠ some (some (V.ref b))) :
    SR K F0 μ0 H0 F (μ ++ [b]) (S ++ [o]) H ρ σ := by
  refine ⟨r, ⟨s.er.len, fun j c e => ?_, s.er.sep⟩, s.ext, ?_, s.own⟩
  · obtain ⟨w, hw, bw⟩ := s.er.val j c e
    refine ⟨w, hw, ?_⟩
    have own' : ∀ (d : Zw.D), (ρ[j]? = some (some (B.own d)) ∨ ρ[j]? = some (some (B.bor d))) → OwnAt K F μ H w d → OwnAt K F (μ ++ [b]) H w d := fun d ej ⟨c, ys, es, e1, e2, hc, rc, nc, mc⟩ => by
      refine ⟨c, ys, es, e1, e2, hc, rc, nc, fun z => ?_⟩
      rcases List.mem_append.mp z with z | z
      · exact mc z
      · rw [List.mem_singleton.mp z] at e1
        subst e1
        exact hown j d ej hw
    cases c with
    | t d => exact bw
    | own d => exact own' d (.inl e) bw
    | bor d => exact own' d (.inr e) bw
    | sc d =>
      obtain ⟨c, ys, es, e1, e2, hc, rc⟩ := bw
      refine ⟨c, ys, es, e1, e2, hc.to fun o h mc => ⟨h, fun z => ?_⟩, rc⟩
      rcases List.mem_append.mp z with z | z
      · exact mc z
      · rw [List.mem_singleton.mp z] at h
        exact hz _ _ h
    | r k =>
      obtain ⟨c, e1, e2⟩ := bw
      exact ⟨c, e1, by rw [List.getElem?_append_left (List.getElem?_eq_some_iff.mp e2).1]; exact e2⟩
  · obtain ⟨ν, e, hν⟩ := s.pre
    refine ⟨ν ++ [b], by rw [e, List.append_assoc], fun c hc => ?_⟩
    rcases List.mem_append.mp hc with hc | hc
    · exact hν c hc
    · rw [List.mem_singleton.mp hc]; exact h0
theorem ROO.tail {v : V} {vs : List V} {q : Bool × Zw.D} {fs : List (Bool × Zw.D)} (h : ROO K F μ H0 H ((v :: vs).map some) ((q :: fs).map some)) : OwV K F μ H0 H v q ∧ ROO K F μ H0 H (vs.map some) (fs.map some) ∧
    ∀ (j : Nat) (d e : Zw.D), q = (true, d) → (fs.map some)[j]? = some (some (true, e)) → (vs.map some)[j]? ≠ some (some v) := by
  refine ⟨?_, ⟨by simpa using h.len, fun i p e => ?_, fun i j d e w n e1 e2 e3 => ?_⟩, fun j d e eq e1 => ?_⟩
  · obtain ⟨w, h1, h2⟩ := h.val 0 q rfl
    cases h1
    exact h2
  · obtain ⟨w, h1, h2⟩ := h.val (i + 1) p (by simpa using e)
    exact ⟨w, by simpa using h1, h2⟩
  · have := h.sep (i + 1) (j + 1) d e w (by omega) (by simpa using e1) (by simpa using e2) (by simpa using e3)
    simpa using this
  · have := h.sep 0 (j + 1) d e v (by omega) (by rw [eq]; rfl) (by simpa using e1) rfl
    simpa using this
theorem ROO.mu {b : Addr} {vs : List (Option V)} {os : List (Option (Bool × Zw.D))} (h : ROO K F μ H0 H vs os) (n : ∀ (j : Nat) (e : Zw.D), os[j]? = some (some (true, e)) → vs[j]? ≠ some (some (.ref b))) : ROO K F (μ ++ [b]) H0 H vs os := by
  refine ⟨h.len, fun i q e => ?_, h.sep⟩
  obtain ⟨v, h1, h2⟩ := h.val i q e
  refine ⟨v, h1, ?_⟩
  obtain ⟨k, d⟩ := q
  cases k with
  | false => exact h2
  | true =>
    obtain ⟨⟨a, xs, ds, e1, e2, e3, e4, e5, e6⟩, g⟩ := h2
    refine ⟨⟨a, xs, ds, e1, e2, e3, e4, e5, fun z => ?_⟩, g⟩
    rcases List.mem_append.mp z with z | z
    · exact e6 z
    · rw [List.mem_singleton.mp z] at e1
      rw [e1] at h1
      exact n i d e h1
theorem lay_ok {Ho : Hp} : ∀ (fs : List (Bool × Zw.D)) (ws : List V) (μ : List Addr) (S : Store), SR K F0 μ0 H0 F μ S H ρ σ → ROO K F μ Ho H (ws.map some) (fs.map some) → (∀ b, Gone Ho b → ∀ (j : Nat) (d : Zw.D), (ρ[j]? = some (some (B.own d)) ∨ ρ[j]? = some (some (B.bor d))) → σ[j]? ≠ some (some (V.ref b))) →
    (∀ b, Gone Ho b → Gone H0 b) → ∃ μ', (∃ ν, μ' = μ ++ ν ∧ ∀ b ∈ ν, ∃ xs, H b = some (.lst xs)) ∧ SR K F0 μ0 H0 F μ' (S ++ layL fs) H ρ σ ∧ FbL K F μ' ws (layF fs S.length)
  | [], ws, μ, S, s, ro, _, _ => by
    have : ws = [] := by
      have := ro.len
      simpa using this
    subst this
    exact ⟨μ, ⟨[], by simp, fun _ h => by simp at h⟩, by simpa [layL] using s, .nil⟩
  | q :: fs, [], μ, S, s, ro, _, _ => by
    have := ro.len
    simp at this
  | (false, d) :: fs, w :: ws, μ, S, s, ro, ho, h0 => by
    obtain ⟨h1, h2, _⟩ := ro.tail
    obtain ⟨μ', ⟨ν, e, hν⟩, s', fb⟩ := lay_ok fs ws μ S s h2 ho h0
    exact ⟨μ', ⟨ν, e, hν⟩, by simpa [layL] using s', .t h1 fb⟩
  | (true, d) :: fs, w :: ws, μ, S, s, ro, ho, h0 => by
    obtain ⟨⟨⟨b, xs, ds, e1, e2, e3, e4, e5, e6⟩, g⟩, h2, h3⟩ := ro.tail
    subst e1 e2
    have gb := g b rfl
    have r1 := s.rel.push e6 e5 (o := .lst ds) ⟨xs, e3, e4⟩
    have s1 := s.push r1 (h0 b gb) (fun o u z => by rw [e3] at z; cases z) (ho b gb)
    obtain ⟨μ', ⟨ν, e, hν⟩, s', fb⟩ := lay_ok fs ws (μ ++ [b]) (S ++ [.lst ds]) s1 (h2.mu fun j e he => h3 j _ e rfl he) ho h0
    refine ⟨μ', ⟨b :: ν, by rw [e, List.append_assoc]; rfl, fun c hc => ?_⟩, by simpa [layL, List.append_assoc] using s', ?_⟩
    · rcases List.mem_cons.mp hc with z | z
      · exact ⟨xs, by rw [z]; exact e3⟩
      · exact hν c z
    · rw [List.length_append] at fb
      refine .r ?_ fb
      rw [e, ← s.rel.len, List.append_assoc, List.getElem?_append_right (Nat.le_refl _), Nat.sub_self]
      rfl
/-- a new instance goes to the store -/
theorem SR.made {a : Addr} {y : Str} {fs : List (Bool × Zw.D)} (s : SR K F0 μ0 H0 F μ S H ρ σ) (e : Ext μ F H F1 H1) (r : Rel K F1 μ S1 H1) (nw : NewO K F1 μ H H1 a y fs) :
    ∃ μ', SR K F0 μ0 H0 F1 μ' (S1 ++ layL fs ++ [.obj y (layF fs S1.length)]) H1 ρ σ ∧ μ'[S1.length + (layL fs).length]? = some a ∧ Gone H a := by
  obtain ⟨dx, ws, h1, h2, h3, h4, h5, h6, ro⟩ := nw
  have s1 := s.step e r
  have ho : ∀ b, Gone H b → ∀ (j : Nat) (d : Zw.D), (ρ[j]? = some (some (B.own d)) ∨ ρ[j]? = some (some (B.bor d))) → σ[j]? ≠ some (some (V.ref b)) := fun b hb j d ej z => s.er.live ej z hb
  obtain ⟨μ', ⟨ν, eμ, hν⟩, s', fb⟩ := lay_ok fs ws μ S1 s1 ro ho fun b hb => s.ext.back hb
  have na : a ∉ μ' := fun z => by
    rw [eμ] at z
    rcases List.mem_append.mp z with z | z
    · exact h6 z
    · obtain ⟨xs, hx⟩ := hν a z
      rw [h1] at hx
      unfold SlX.SlO at hx
      cases hx
  have r2 := s'.rel.push na h5 (o := .obj y (layF fs S1.length)) ⟨dx, ws, h1, h2, h3, fb⟩
  refine ⟨μ' ++ [a], s'.push r2 (s.ext.back h4) (fun o u z => ?_) (ho a h4), ?_, h4⟩
  · rw [h1] at z
    unfold SlX.SlO at z
    cases z
  · have hl := s'.rel.len
    rw [List.length_append] at hl
    rw [← hl, List.getElem?_append_right (Nat.le_refl _), Nat.sub_self]
    rfl
/-! ### a name for a place -/
theorem SR.setR (s : SR K F0 μ0 H0 F μ S H ρ σ) {i k : Nat} {a : Addr} (hk : μ[k]? = some a) : SR K F0 μ0 H0 F μ S H (ρ.set i (some (.r k))) (σ.set i (some (.ref a))) := by
  have hl := s.er.len
  have gs : ∀ (j : Nat) (c : B), (ρ.set i (some (B.r k)))[j]? = some (some c) → (j = i ∧ c = .r k ∧ i < ρ.length) ∨ (j ≠ i ∧ ρ[j]? = some (some c)) := fun j c e => by
    by_cases q : j = i
    · subst q
      by_cases l : j < ρ.length
      · rw [List.getElem?_set_self l] at e
        cases e
        exact .inl ⟨rfl, rfl, l⟩
      · rw [List.getElem?_eq_none (by simpa using l)] at e; cases e
    · rw [List.getElem?_set_ne (Ne.symm q)] at e
      exact .inr ⟨q, e⟩
  have old : ∀ (j : Nat) (c : B), (∀ k, c ≠ .r k) → (ρ.set i (some (B.r k)))[j]? = some (some c) → j ≠ i ∧ ρ[j]? = some (some c) := fun j c n e => by
    rcases gs j c e with ⟨_, z, _⟩ | h
    · exact absurd z (n k)
    · exact h
  refine ⟨s.rel, ⟨by simpa using hl, fun j c e => ?_, fun j m d1 d2 b n e1 e2 e3 => ?_⟩, s.ext, s.pre, fun j d b e1 e2 => ?_⟩
  · rcases gs j c e with ⟨q, e2, l⟩ | ⟨q, e2⟩
    · subst q e2
      exact ⟨_, List.getElem?_set_self (by omega), a, rfl, hk⟩
    · obtain ⟨w, h1, h2⟩ := s.er.val j c e2
      exact ⟨w, by rw [List.getElem?_set_ne (Ne.symm q)]; exact h1, h2⟩
  · obtain ⟨n1, e1⟩ := old j _ (fun _ z => by cases z) e1
    rw [List.getElem?_set_ne (Ne.symm n1)] at e3
    by_cases q : m = i
    · subst q
      rcases e2 with e2 | e2
      · exact absurd rfl (old m _ (fun _ z => by cases z) e2).1
      · exact absurd rfl (old m _ (fun _ z => by cases z) e2).1
    · rw [List.getElem?_set_ne (Ne.symm q)]
      refine s.er.sep j m d1 d2 b n e1 ?_ e3
      rcases e2 with e2 | e2
      · exact .inl (old m _ (fun _ z => by cases z) e2).2
      · exact .inr (old m _ (fun _ z => by cases z) e2).2
  · obtain ⟨n1, e1⟩ := old j _ (fun _ z => by cases z) e1
    rw [List.getElem?_set_ne (Ne.symm n1)] at e2
    exact s.own j d b e1 e2
/-! ### the class called -/
def okNw (K : PySem.W.Frag) (xc : Nat → Option XCls) (μ : List Addr) (F H : Hp) (r : R (List (Bool × Zw.D))) (y : Str) (Q : VK) (E : XK) : Prop := match r with
  | .ok fs S' => ∀ F' H' a, Ext μ F H F' H' → Rel K F' μ S' H' → NewO K F' μ H H' a y fs → Q (.ref a) H'
  | .ex c p S' => ∀ F' H' cls d, Ext μ F H F' H' → Rel K F' μ S' H' → XR K xc F' H' c p cls d → E cls d H'
  | .bad => False
theorem NewO.back {a : Addr} {y : Str} {fs : List (Bool × Zw.D)} (x : Ext μ F H F1 H1) (h : NewO K F' μ H1 H' a y fs) : NewO K F' μ H H' a y fs := by
  obtain ⟨dx, ws, h1, h2, h3, h4, h5, h6, ro⟩ := h
  refine ⟨dx, ws, h1, h2, h3, x.back h4, h5, h6, ro.len, fun i q e => ?_, ro.sep⟩
  obtain ⟨v, h7, h8⟩ := ro.val i q e
  refine ⟨v, h7, ?_⟩
  obtain ⟨k, d⟩ := q
  cases k with
  | false => exact h8
  | true => exact ⟨h8.1, fun a e => x.back (h8.2 a e)⟩
theorem okNw.step {r : R (List (Bool × Zw.D))} {y : Str} {Q : VK} {E : XK} (x : Ext μ F H F1 H1) (h : okNw K xc μ F H r y Q E) : okNw K xc μ F1 H1 r y Q E := by
  cases r with
  | ok fs S' => exact fun F' H' a e r n => h F' H' a (x.trans e) r (n.back x)
  | ex c p S' => exact fun F' H' cls d e r q => h F' H' cls d (x.trans e) r q
  | bad => exact h
structure NewC (P : Program) (w : World) (K : PySem.W.Frag) (mg : Str → Option Value) (base : Heap) (xc : Nat → Option XCls) (k : Nat) (f : Addr) (y : Str) (m : List B → Store → R (List (Bool × Zw.D))) : Prop where
  run : ∀ (X : Cx) (W : WX) (pins : List (Addr × Obj)) (σ : L2.St) (s : Shared) (H : Hp) (us : List Value) (vs : List V) (F : Hp) (μ : List Addr) (S : Store) (bs : List B) (Q : VK), X.prog = P → X.w = w → X.K = K → X.mg = mg → X.base = base →
    Room k X.A → X.A.guards = some [] → Takes X W → Inv X pins σ H s → Vals vs us → Rel K F μ S H → BRs K F μ H vs bs → okNw K xc μ F H (m bs S) y Q (fun cls d H' => W cls d σ H') → wpAny (model X.prog X.w) X.A (call (.ref f) us) (EP X pins σ Q) X.xe s
def tNew (K : PySem.W.Frag) (xc : Nat → Option XCls) (W : WX) (y : Str) (m : Env → Store → R (List (Bool × Zw.D))) : TE := fun σ H Q =>
  ∃ F μ S ρ, Rel K F μ S H ∧ ER K F μ H ρ σ ∧ okNw K xc μ F H (m ρ S) y Q (fun cls d H' => W cls d σ H')
theorem pe_newC {k : Nat} {f : Addr} {y : Str} {mm : List B → Store → R (List (Bool × Zw.D))} {ma : Env → Store → R (List B)} {p pos : Pos} {e : Expr} {es : List Expr} (Nc : NewC X.prog X.w X.K X.mg X.base xc k f y mm) (hr : Room k X.A) (hgd : X.A.guards = some []) (tk : Takes X W)
    (hg : L2.Gl X y) (hmg : X.mg y = some (.ref f)) (hk : PySem.W.keepIn X.K (.ref f) = true) (ha : PA X (e :: es) (tML X.K xc W ma)) (hdb : (y == ("__debug__" : Str)) = false) (hs : (e :: es).all notStar = true) :
    PE X (.Call (.Name y p) (e :: es) [] pos) (tNew X.K xc W y fun ρ s => (ma ρ s).bind mm) := by
  rw [List.all_cons] at hs
  obtain ⟨n1, n2⟩ := Bool.and_eq_true_iff.mp hs
  refine ⟨fun pins s σ H Q I h => ?_⟩
  obtain ⟨F, μ, S, ρ, rel, er, h⟩ := h
  have har : tML X.K xc W ma σ H (fun vs H1 => ∃ F1 S1 bs, Rel X.K F1 μ S1 H1 ∧ BRs X.K F1 μ H1 vs bs ∧ okNw X.K xc μ F1 H1 (mm bs S1) y Q (fun cls d H' => W cls d σ H')) := by
    refine ⟨F, μ, S, ρ, rel, er, ?_⟩
    dsimp only at h
    cases q : ma ρ S with
    | bad => rw [q] at h; exact h.elim
    | ex c p S1 => rw [q] at h; exact h
    | ok bs S1 =>
      rw [q] at h
      exact fun F1 H1 vs e1 r1 b1 => ⟨F1, S1, bs, r1, b1, okNw.step e1 h⟩
  refine wpAny_Call_Name_kw (ld_glob I hg hmg ?_ hdb)
  refine PySem.W.callWith_K (h₀ := X.base) I.ok.mod.kin hk (thn (ha.run pos pins s σ H _ I har) fun us s1 ⟨vs, H1, I1, r, F1, S1, bs, r1, b1, q⟩ => ⟨I1.kIn, ?_⟩) (starEach_plain n1) (backTo_plain n2)
  exact Nc.run X W pins σ s1 H1 us vs F1 μ S1 bs Q rfl rfl rfl rfl rfl hr hgd tk I1 r r1 b1 q
/-! ### the statement -/
theorem exec_newP {i c : Nat} {args : List CE} {is : List Nat} {es : List CE} {y : Str} {Fo : List B → Store → R (List (Bool × Zw.D))} (ho : G.ob c = some (y, Fo)) : exec G (.newP i c args is es) ρ S = ((evl G args ρ S).bind Fo).to ρ fun fs s =>
        (evg G es ρ (s ++ layL fs ++ [.obj y (layF fs s.length)])).to ρ fun bs s' => match gives bs with
          | some bs => if bs.length = is.length then .nx (setAll (i :: is) (.r (s.length + (layL fs).length) :: bs) ρ) s' else .bad
          | none => .bad := by
  rw [exec, ho]
  first | done | rfl
/-- what is done once the instance is there -/
theorem newP_rd {i : Nat} {is : List Nat} {es : List CE} {y : Str} {r : R (List (Bool × Zw.D))} {Q : VK} (s : SR K F0 μ0 H0 F μ S H ρ σ)
    (h : okSt K xc F0 μ0 H0 W D (r.to ρ fun fs s =>
        (evg G es ρ (s ++ layL fs ++ [.obj y (layF fs s.length)])).to ρ fun bs s' => match gives bs with
          | some bs => if bs.length = is.length then .nx (setAll (i :: is) (.r (s.length + (layL fs).length) :: bs) ρ) s' else .bad
          | none => .bad))
    (k : ∀ a H1, (∀ R' : List V → Hp → Prop, (∀ vs H2, vs.length = is.length → D.nx (setV (i :: is) (.ref a :: vs) σ) H2 → (∀ p o, H2 p = none → NT o → D.nx (setV (i :: is) (.ref a :: vs) σ) (upd H2 p o)) → R' vs H2) → tMG K xc W (evg G es) σ H1 R') → Q (.ref a) H1) : okNw K xc μ F H r y Q (fun cls d H' => W cls d σ H') := by
  cases r with
  | bad => exact h
  | ex c p S1 => exact fun F1 H1 cls d e1 r1 x => h F1 μ H1 σ cls d (s.step e1 r1) x
  | ok fs S1 =>
    intro F1 H1 a e1 r1 nw
    obtain ⟨μ', s1, hk, ga⟩ := s.made e1 r1 nw
    have h : okSt K xc F0 μ0 H0 W D ((evg G es ρ (S1 ++ layL fs ++ [.obj y (layF fs S1.length)])).to ρ fun bs s' => match gives bs with
          | some bs => if bs.length = is.length then .nx (setAll (i :: is) (.r (S1.length + (layL fs).length) :: bs) ρ) s' else .bad
          | none => .bad) := h
    refine k a H1 fun R' kk => ⟨F1, μ', _, ρ, s1.rel, s1.er, toG s1 h fun F2 H2 vs bs S2 s2 bvs fr h1 => ?_⟩
    cases q : gives bs with
    | none => rw [q] at h1; exact h1.elim
    | some bs' =>
      rw [q] at h1
      obtain ⟨rfl, hb⟩ := gives_some q
      have h1 : okSt K xc F0 μ0 H0 W D (if bs'.length = is.length then .nx (setAll (i :: is) (.r (S1.length + (layL fs).length) :: bs') ρ) S2 else .bad) := h1
      by_cases l : bs'.length = is.length
      · rw [if_pos l] at h1
        have fin : ∀ H3, SR K F0 μ0 H0 F2 μ' S2 H3 ρ σ → BRs K F2 μ' H3 vs bs' → D.nx (setV (i :: is) (.ref a :: vs) σ) H3 := fun H3 s2 bvs => by
          have s3 := s2.setR (i := i) hk
          refine h1 F2 μ' H3 _ (setAll_ok (is := is) s3 bvs fr hb s1.ext.live fun j d b e2 e3 => ?_)
          by_cases qj : j = i
          · subst qj
            by_cases lj : j < ρ.length
            · rw [List.getElem?_set_self lj] at e2
              rcases e2 with e2 | e2 <;> cases e2
            · rw [List.getElem?_eq_none (by simpa using lj)] at e2
              rcases e2 with e2 | e2 <;> cases e2
          · rw [List.getElem?_set_ne (Ne.symm qj)] at e2 e3
            exact s1.er.live e2 e3
        exact kk vs H2 (bvs.length.trans l) (fin H2 s2 bvs) fun p o hp n => fin _ (s2.step (Ext.newOwn hp n) (s2.rel.newOwn hp)) (bvs.step (Ext.newOwn hp n))
      · rw [if_neg l] at h1; exact h1.elim
theorem s_newB {i c : Nat} {args : List CE} {is : List Nat} {es : List CE} {st : Stmt} (ho : G.ob c = none) : PS X st (tMS X.K xc W (exec G (.newP i c args is es))) := PS.weak ps_never fun D σ H ⟨F0, μ0, H0, F, μ, S, ρ, s, h⟩ => by
  rw [exec, ho] at h
  exact h
/-- x = C(args) -/
theorem s_new1 {i c : Nat} {x : Str} {e : Expr} {args : List CE} {y : Str} {Fo : List B → Store → R (List (Bool × Zw.D))} {pos pos' : Pos} (hN : X.N.Nodup) (hi : X.N[i]? = some x) (hx : Loc X.env.scope x) (ho : G.ob c = some (y, Fo)) (he : PE X e (tNew X.K xc W y fun ρ s => (evl G args ρ s).bind Fo))
    (hs : swapsWith e (some (.Name x pos')) pos.line X.env = pure false) (hf : X.fn x = true ∨ X.env.scope.names.lookup x = some .local) : PS X (.Assign [.Name x pos'] e pos) (tMS X.K xc W (exec G (.newP i c args [] []))) :=
  PS.weak (ps_set hN hi hx he hs hf) fun De σ H ⟨F0, μ0, H0, F, μ, S, ρ, s, h⟩ => by
    rw [exec_newP ho] at h
    refine ⟨F, μ, S, ρ, s.rel, s.er, newP_rd (is := []) (es := []) s h fun a H1 kk => ?_⟩
    obtain ⟨F2, μ2, S2, ρ2, r2, er2, z⟩ := kk (fun vs H2 => vs = [] → De.nx (σ.set i (some (.ref a))) H2) fun vs H2 l hn _ ev => by subst ev; exact hn
    exact z F2 H1 [] (Ext.refl _ _ _) r2 .nil trivial rfl
theorem gs_names : ∀ (is : List Nat) (vs : List V) (σ : L2.St) (H : Hp) (Q : L2.St → Hp → Prop), vs.length = is.length → Q (setV is vs σ) H → gsOf K (is.map .nm) vs σ H Q
  | [], [], σ, H, Q, _, q => by
    rw [List.map_nil, gsOf]
    exact ⟨rfl, q⟩
  | i :: is, v :: vs, σ, H, Q, l, q => by
    rw [List.map_cons, gsOf, gOf]
    exact ⟨v, vs, rfl, gs_names is vs _ H Q (by simpa using l) q⟩
  | [], _ :: _, _, _, _, l, _ => by simp at l
  | _ :: _, [], _, _, _, l, _ => by simp at l
/-- x, is.. = C(args), es.. -/
theorem s_newN {i c : Nat} {is : List Nat} {es0 args : List CE} {y : Str} {Fo : List B → Store → R (List (Bool × Zw.D))} {ts : List Expr} {e : Expr} {es : List Expr} {k1 k2 : Nat} {p1 p2 pos : Pos} (hc : X.calm = true) (ho : G.ob c = some (y, Fo)) (he : PE X e (tNew X.K xc W y fun ρ s => (evl G args ρ s).bind Fo))
    (hes : PA X es (tMG X.K xc W (evg G es0))) (n1 : notStar e = true) (hg : PGs X ts (gsOf X.K ((i :: is).map .nm))) (hn : (assignEach ts X.env).length = is.length + 1) (hst : (assignEach ts X.env).findIdx? (·.1) = none)
    (hs : swapsWithSole [.Tuple ts k1 p1] (.Tuple (e :: es) k2 p2) pos.line X.env = pure false) (hw : swappedStores [.Tuple ts k1 p1] (.Tuple (e :: es) k2 p2) X.env = pure none) (hl : is.length < 1000) :
    PS X (.Assign [.Tuple ts k1 p1] (.Tuple (e :: es) k2 p2) pos) (tMS X.K xc W (exec G (.newP i c args is es0))) :=
  PS.weak (ps_asg (pe_tup (pa_cons he hes (starEach_plain n1))) (pg_tup hc hg hn hst) hs hw rfl) fun De σ H ⟨F0, μ0, H0, F, μ, S, ρ, s, h⟩ => by
    rw [exec_newP ho] at h
    refine ⟨F, μ, S, ρ, s.rel, s.er, newP_rd s h fun a H1 kk => ?_⟩
    refine kk _ fun vs H2 l _ hn => ⟨by rw [← line_eq]; simp [line]; omega, fun p hp => ?_⟩
    refine ⟨p, .ref a :: vs, rfl, SqT.of upd_same, by simp [l], ?_⟩
    refine gs_names (i :: is) (.ref a :: vs) σ _ _ (by simp [l]) ?_
    exact hn p _ hp nt_tup
end
end Zw
set_option Elab.async false
set_option linter.all false
set_option maxRecDepth 100000
set_option maxHeartbeats 1000000
/-! ZwU: x, *y = a tuple. -/
namespace Zw
open PySem PySem.Spec PyProof.Rows L2
section
variable {prog : Program} {w : World} {A : Around} {E : Value → Shared → Prop} {s : Shared}
open PySem.W PySem.Calls in
theorem unp_star {T : Addr} {its : Array Value} {u : Value} {us : List Value} {R : List Value → Shared → Prop} (ht : IsTup s.heap T its) (hi : its.toList = u :: us) (hh : A.handled = none) (hz : its.size ≤ 16000)
    (q : ∀ (g : Heap) k, (∀ b o, s.heap.get? b = some o → g.get? b = some o) → R [u, .ref g.objs.size] { s with heap := g.push { cls := .type "list", data := .seq us.toArray }, toks := k }) :
    wpAny (model prog w) A (unpackItems (.ref T) 2 (some 1)) R E s := by
  have n1 : its.size = us.length + 1 := by rw [← Array.length_toList, hi]; rfl
  have tl : T < s.heap.objs.size := by
    obtain ⟨o, ho, _⟩ := ht
    exact Heap.lt_size ho
  have ne : T ≠ s.heap.objs.size := Nat.ne_of_lt tl
  have hn : wpAny (model prog w) A (notIterableAtAll (.ref T)) (fun b s' => b = false ∧ s' = s) E s := by
    unfold notIterableAtAll
    exact wpAny_bind (wpAny_specialOf ht.typeIs slot_tuple_iter.lookup (wpAny_pure ⟨rfl, rfl⟩))
  unfold unpackItems
  refine wpAny_bind (wpAny_mono hn (fun b s' e => ?_) fun _ _ h => h)
  obtain ⟨rfl, rfl⟩ := e
  rw [if_neg (by decide)]
  refine wpAny_bind (wpAny_holding (iter_tuple ht ?_))
  refine wpAny_bind (wpAny_holding (draw_tuple ne 1 0 _ _ ⟨_, Heap.get?_push_size _ rfl, rfl, rfl⟩ (ht.push _) (by omega) fun g1 it1 sb => ?_))
  have ht1 : IsTup g1 T its := (ht.push _).extBut sb.extBut ne
  obtain ⟨oi, hoi, _⟩ := id it1
  obtain ⟨ol, hol, _⟩ := id ht1
  rw [hi]
  show wpAny _ _ (if [u].length < 1 then _ else _) _ _ _
  rw [if_neg (show ¬ [u].length < 1 from Nat.lt_irrefl 1)]
  refine wpAny_bind (wpAny_holding (kun_collect (s := { s' with heap := g1 }) (T := "tuple_iterator") (.inr (.inr (.inr rfl))) (Walks.tuple (A := A.in1) hh s'.heap.objs.size T ne its) (fun j z st => st.1.typeIs) (k := 1) (by omega) ⟨it1, ht1⟩ (Heap.lt_size hoi) (Heap.lt_size hol) (fun g2 tk kp => ?_) (by rw [sizeLine_eq]; omega)))
  have e1 : its.toList.drop 1 = us := by rw [hi]; rfl
  rw [e1]
  show wpAny _ _ (if us.length < 2 - 1 - 1 then _ else _) _ _ _
  rw [if_neg (by omega)]
  show wpAny _ _ (newList (us.take (us.length - 0)) >>= fun d => pure ([u] ++ [d] ++ us.drop (us.length - 0))) _ _ _
  rw [Nat.sub_zero, List.take_length, List.drop_length]
  refine wpAny_bind (wpAny_newList (wpAny_pure ?_) (by rw [sizeLine_eq]; omega))
  have up : ∀ b o, s'.heap.get? b = some o → g2.get? b = some o := fun b o e => by
    have nb : b ≠ s'.heap.objs.size := Nat.ne_of_lt (Heap.lt_size e)
    exact kp b o nb (sb.extBut b o nb (Heap.get?_push_of_some _ e))
  exact q g2 tk up
end
theorem Rel.liveP {K : PySem.W.Frag} {F H : Hp} {μ : List Addr} {S : Store} (r : Rel K F μ S H) {a : Addr} (ha : a ∈ μ) : ∃ o, H a = some o ∧ Pl a o := by
  obtain ⟨k, hk⟩ := List.mem_iff_getElem?.mp ha
  have hl : k < S.length := by rw [← r.len]; exact (List.getElem?_eq_some_iff.mp hk).1
  cases e : S[k]? with
  | none => exact absurd (List.getElem?_eq_none_iff.mp e) (by omega)
  | some o => cases o with
    | lst xs =>
      obtain ⟨vs, h1, _⟩ := r.obj k a xs hk e
      exact ⟨_, h1, fun _ z => (by cases z), fun q z => (by unfold LamX.CodeO at z; cases z)⟩
    | obj x fs =>
      obtain ⟨dx, ws, h1, _⟩ := r.ob2 k a x fs hk e
      exact ⟨_, h1, pl_slO⟩
section
variable {X : Cx} {K : PySem.W.Frag} {xc : Nat → Option XCls} {W : WX} {G : Gx}
/-- x, *y = a tuple that is not empty -/
def sUnp (K : PySem.W.Frag) (te : TE) (i j : Nat) : TS := fun De σ H => te σ H fun v H1 => ∃ a x xs, v = .ref a ∧ SqT K H1 a (x :: xs) ∧ xs.length ≤ 1000 ∧ ∀ p, H1 p = none → De.nx ((σ.set i (some x)).set j (some (.ref p))) (upd H1 p (.lst xs))
theorem ps_unp {i j k : Nat} {x y : Str} {e : Expr} {te : TE} {px py ps pt pos : Pos} (hc : X.calm = true) (hN : X.N.Nodup) (hi : X.N[i]? = some x) (hj : X.N[j]? = some y) (hx : Loc X.env.scope x) (hy : Loc X.env.scope y)
    (fx : X.fn x = true ∨ X.env.scope.names.lookup x = some .local) (fy : X.fn y = true ∨ X.env.scope.names.lookup y = some .local) (he : PE X e te)
    (hs : swapsWithSole [.Tuple [.Name x px, .Starred (.Name y py) ps] k pt] e pos.line X.env = pure false) (hw : swappedStores [.Tuple [.Name x px, .Starred (.Name y py) ps] k pt] e X.env = pure none) :
    PS X (.Assign [.Tuple [.Name x px, .Starred (.Name y py) ps] k pt] e pos) (sUnp X.K te i j) := by
  refine ⟨fun pins s σ H De I h => ?_⟩
  refine wpAny_Assign_stores (thn (he.run pins s σ H _ I h) fun u s1 ⟨v, H1, I1, rv, a, w, ws, ev, sq, hl, q⟩ => ?_) hs hw
  subst ev
  obtain rfl : u = Value.ref a := rv
  obtain ⟨its, rvs, tp, _⟩ := I1.tuple sq
  cases rvs with
  | cons r0 rr =>
    rename_i u0 us
    have hl2 : us.length ≤ 1000 := by rw [← rr.length]; exact hl
    show wpAny (model X.prog X.w) X.A (assign (.Tuple [.Name x px, .Starred (.Name y py) ps] k pt) X.env (.ref a)) _ _ s1
    rw [assign_Tuple]
    refine wpAny_bind (wpAny_standAt ?_)
    show wpAny (model X.prog X.w) X.A (unpack (.ref a) (assignEach [.Name x px, .Starred (.Name y py) ps] X.env)) _ _ s1
    have ea : assignEach [.Name x px, .Starred (.Name y py) ps] X.env = [(false, assign (.Name x px) X.env), (true, assign (.Name y py) X.env)] := rfl
    rw [ea]
    unfold unpack
    refine wpAny_bind (wpAny_holding (unp_star (u := u0) (us := us) tp (by simp) (I1.ok.hd hc) (by simp; omega) fun g tk up => ?_))
    have I2 : Inv X pins σ H1 { s1 with heap := g, toks := tk } := I1.kept up
    have I3 : Inv X pins σ (upd H1 g.objs.size (.lst ws)) { s1 with heap := g.push { cls := .type "list", data := .seq us.toArray }, toks := tk } :=
      I2.laid (t' := tk) (fun b o e => Heap.get?_push_of_some _ e) (Nat.le_refl _) ⟨by rw [PySem.sizeLine_eq]; omega, us, _, rr, Heap.get?_push_size _ rfl⟩
    refine assignInOrder_cons (thn ((pg_name hN hi hx fx).run pins _ σ _ w u0 _ I3 r0 (show gName i w σ _ (fun σ' H' => σ' = σ.set i (some w) ∧ H' = upd H1 g.objs.size (.lst ws)) from ⟨rfl, rfl⟩)) fun _ s4 ⟨σ4, H4, I4, e4, e5⟩ => ?_)
    subst e4 e5
    refine assignInOrder_cons (thn ((pg_name hN hj hy fy).run pins s4 _ _ (.ref g.objs.size) (.ref g.objs.size) _ I4 rfl (q g.objs.size (I2.hok.fresh (Nat.le_refl _)))) fun _ s5 z => ?_)
    exact wpAny_pure z
theorem s_unpS {i j k : Nat} {x y : Str} {e : Expr} {c : CE} {px py ps pt pos : Pos} (hc : X.calm = true) (hN : X.N.Nodup) (hi : X.N[i]? = some x) (hj : X.N[j]? = some y) (hx : Loc X.env.scope x) (hy : Loc X.env.scope y)
    (fx : X.fn x = true ∨ X.env.scope.names.lookup x = some .local) (fy : X.fn y = true ∨ X.env.scope.names.lookup y = some .local) (he : PE X e (tM X.K xc W (ev G c)))
    (hs : swapsWithSole [.Tuple [.Name x px, .Starred (.Name y py) ps] k pt] e pos.line X.env = pure false) (hw : swappedStores [.Tuple [.Name x px, .Starred (.Name y py) ps] k pt] e X.env = pure none) :
    PS X (.Assign [.Tuple [.Name x px, .Starred (.Name y py) ps] k pt] e pos) (tMS X.K xc W (exec G (.unpS i j c))) :=
  PS.weak (ps_unp hc hN hi hj hx hy fx fy he hs hw) fun De σ H ⟨F0, μ0, H0, F, μ, S, ρ, s, h⟩ => by
    rw [exec] at h
    refine ⟨F, μ, S, ρ, s.rel, s.er, toE s h fun F1 H1 v b S1 e1 s1 bv fr h1 => ?_⟩
    split at h1
    · rename_i d ds
      by_cases l : ds.length ≤ 1000
      · rw [if_pos l] at h1
        have bv : Rp X.K F1 v (.tup (d :: ds)) := bv
        cases bv with
        | @tup a xs _ h2 h3 =>
          cases h3 with
          | cons r rs =>
            rename_i w ws
            refine ⟨a, w, ws, rfl, sqT_sub s1.rel.sub h2, by rw [rs.length]; exact l, fun p hp => ?_⟩
            have e2 : Ext μ F1 H1 F1 (upd H1 p (.lst ws)) := Ext.newOwn hp nt_lst
            have s2 := s1.step e2 (s1.rel.newOwn hp)
            have s3 : SR X.K F0 μ0 H0 F1 μ S1 (upd H1 p (.lst ws)) (ρ.set i (some (.t d))) (σ.set i (some w)) := s2.setB (b := .t d) r rfl fun _ _ z => by cases z
            have gp : Gone H1 p := .of hp
            refine h1 F1 μ _ _ (s3.setB (b := .own (.lst ds)) ⟨p, ws, ds, rfl, rfl, upd_same, rs, (s1.rel.out gp).1, (s1.rel.out gp).2⟩ rfl fun d' a' _ ea => ?_)
            cases ea
            refine ⟨s1.ext.back gp, fun m d2 hm z => ?_⟩
            have old : (ρ[m]? = some (some (B.own d2)) ∨ ρ[m]? = some (some (B.bor d2))) ∧ m ≠ i := by
              by_cases q : m = i
              · subst q
                by_cases lm : m < ρ.length
                · rw [List.getElem?_set_self lm] at hm
                  rcases hm with hm | hm <;> cases hm
                · rw [List.getElem?_eq_none (by simpa using lm)] at hm
                  rcases hm with hm | hm <;> cases hm
              · rw [List.getElem?_set_ne (Ne.symm q)] at hm
                exact ⟨hm, q⟩
            rw [List.getElem?_set_ne (Ne.symm old.2)] at z
            exact s1.er.live old.1 z gp
      · rw [if_neg l] at h1; exact h1.elim
    · exact h1.elim
end
end Zw
set_option Elab.async false
set_option linter.all false
set_option maxRecDepth 100000
/-! ZwD: dicts as they are written; they stay. -/
namespace Zw
open PySem PySem.Spec PyProof.Rows L2
section
variable {X : Cx} {K : PySem.W.Frag} {xc : Nat → Option XCls} {W : WX} {F : Hp} {μ : List Addr} {S : Store} {H : Hp} {σ : L2.St} {ρ : Env} {G : Gx}
theorem tabs_dK {T : List (Addr × Str)} {H : Hp} {a : Addr} {o : HO} {kvs : List (Key × V)} (t : LamX.Tabs T H) (h : H a = some (.dK kvs)) : LamX.Tabs T (upd H a o) := fun p hp => by
  obtain ⟨ps, h1, h2, h3⟩ := t p hp
  refine ⟨ps, ?_, h2, fun pos cv e => ?_⟩
  · rw [upd_ne]
    · exact h1
    · intro z
      rw [z, h] at h1
      cases h1
  · obtain ⟨c, e1, e2⟩ := h3 pos cv e
    refine ⟨c, e1, ?_⟩
    rw [upd_ne]
    · exact e2
    · intro z
      rw [z, h] at e2
      unfold LamX.CodeO at e2
      cases e2
/-- a dict at p, so far nobody's: it is filled, and stays -/
theorem Rel.fill {S : Store} {p : Addr} {o : HO} {kvs : List (Key × V)} (r : Rel K F μ S H) (hf : F p = none) (hp : H p = some (.dK kvs)) (hm : p ∉ μ) (n : NT o) : Rel K (upd F p o) μ S (upd H p o) := by
  have nf : ∀ a u, F a = some u → a ≠ p := fun a u e z => by rw [z] at e; rw [hf] at e; cases e
  have sF : Same F (upd F p o) := fun a u e => by rw [upd_ne (nf a u e)]; exact e
  refine ⟨fun a u e => ?_, r.len, r.nd, fun k a xs e1 e2 => ?_, fun a ha => ?_, fun a u e => ?_, tabs_dK r.tab hp, fun k a x fs e1 e2 => ?_⟩
  · by_cases q : a = p
    · rw [q, upd_same] at e; rw [q, upd_same]; exact e
    · rw [upd_ne q] at e; rw [upd_ne q]; exact r.sub a u e
  · obtain ⟨vs, h1, h2⟩ := r.obj k a xs e1 e2
    have q : a ≠ p := fun z => hm (by rw [← z]; exact List.mem_of_getElem? e1)
    exact ⟨vs, by rw [upd_ne q]; exact h1, h2.mono sF⟩
  · have q : a ≠ p := fun z => hm (by rw [← z]; exact ha)
    rw [upd_ne q]; exact r.dis a ha
  · by_cases q : a = p
    · rw [q, upd_same] at e; cases e; exact n
    · rw [upd_ne q] at e; exact r.ft a u e
  · have q : a ≠ p := fun z => hm (by rw [← z]; exact List.mem_of_getElem? e1)
    exact (r.ob2 k a x fs e1 e2).to sF (fun _ _ h => h) fun o _ h => by rw [upd_ne q]; exact h
theorem d_cons_rd {c : CE} {cs : List (Bool × CE)} {Q : List V → Hp → Prop} (h : tMD K xc W (evs G ((false, c) :: cs)) σ H Q) : tM K xc W (ev G c) σ H fun x H1 => tMD K xc W (evs G cs) σ H1 fun xs H2 => Q (x :: xs) H2 := by
  obtain ⟨F, μ, S, ρ, rel, er, h⟩ := h
  refine ⟨F, μ, S, ρ, rel, er, ?_⟩
  rw [show evs G ((false, c) :: cs) ρ S = (ev G c ρ S).bind fun x s => match x.frz with
        | some d => (evs G cs ρ s).bind fun xs s => .ok (d :: xs) s
        | none => .bad from rfl] at h
  have h2 : okD K xc μ W F H σ (((ev G c ρ S).bind fun x s => .ok x.still s).bind fun x s => match x with
        | .t d => (evs G cs ρ s).bind fun xs s => .ok (d :: xs) s
        | _ => .bad) Q := by
    rw [R.bind_assoc]
    cases q : ev G c ρ S with
    | ok x s1 =>
      rw [q] at h
      cases x with
      | t d => exact h
      | own d => exact h
      | bor d => exact h.elim
      | sc d => exact h.elim
      | r k => exact h.elim
    | ex c p s1 => rw [q] at h; exact h
    | bad => rw [q] at h; exact h
  have h3 : okE K xc μ W F H σ ((ev G c ρ S).bind fun x s => .ok x.still s) (fun x H1 => tMD K xc W (evs G cs) σ H1 fun xs H2 => Q (x :: xs) H2) := okE_bindD h2 fun F1 H1 v b S1 e1 r1 b1 f1 h1 => by
    cases b with
    | t d =>
      refine ⟨F1, μ, S1, ρ, r1, er.step e1, okD_map h1 fun F2 H2 vs ds S2 e2 r2 b2 h2 => ?_⟩
      exact h2 F2 H2 (v :: vs) (Ext.refl _ _ _) r2 (.cons (Rp.mono e2.fs b1) b2)
    | own d => exact h1.elim
    | bor d => exact h1.elim
    | sc d => exact h1.elim
    | r k => exact h1.elim
  exact okE_still h3
theorem tM_mono {m : Env → Store → R B} {Q R' : VK} (h : tM K xc W m σ H Q) (k : ∀ v H, Q v H → R' v H) : tM K xc W m σ H R' := by
  obtain ⟨F, μ, S, ρ, rel, er, h⟩ := h
  refine ⟨F, μ, S, ρ, rel, er, ?_⟩
  cases q : m ρ S with
  | ok b S1 => rw [q] at h; exact fun F1 H1 v x r1 bv fr => k _ _ (h F1 H1 v x r1 bv fr)
  | ex c p S1 => rw [q] at h; exact h
  | bad => rw [q] at h; exact h.elim
/-- the pairs as they stand in the core -/
def flatP : List (V × V) → List V
  | [] => []
  | p :: r => p.1 :: p.2 :: flatP r
inductive Prs (G : Gx) (K : PySem.W.Frag) (xc : Nat → Option XCls) (W : WX) : List (Bool × CE) → List (TE × TE) → Prop
  | nil : Prs G K xc W [] []
  | cons {k v : CE} {cs : List (Bool × CE)} {trs : List (TE × TE)} : Prs G K xc W cs trs → Prs G K xc W ((false, k) :: (false, v) :: cs) ((tM K xc W (ev G k), tM K xc W (ev G v)) :: trs)
theorem pairs_rd {cs : List (Bool × CE)} {trs : List (TE × TE)} (p : Prs G K xc W cs trs) : ∀ {H : Hp} {Q : List V → Hp → Prop} {R' : List (V × V) → Hp → Prop}, (∀ ps H, Q (flatP ps) H → R' ps H) → tMD K xc W (evs G cs) σ H Q → tPairs trs σ H R' := by
  induction p with
  | nil =>
    intro H Q R' w ⟨F, μ, S, ρ, rel, er, h⟩
    exact w [] H (h F H [] (Ext.refl _ _ _) rel .nil)
  | cons p ih =>
    intro H Q R' w h
    refine tM_mono (d_cons_rd h) fun x H1 h1 => tM_mono (d_cons_rd h1) fun y H2 h2 => ih (fun ps H3 h3 => ?_) h2
    exact w ((x, y) :: ps) H3 h3
theorem okD_bindP {F0 H0 : Hp} {r : R (List D)} {g : List D → Store → R B} {Q : VK} {R' : List V → Hp → Prop} (h : okE K xc μ W F H σ (r.bind g) Q) (x : Ext μ F H F0 H0)
    (k : ∀ F1 H1 vs ds S1, Ext μ F0 H0 F1 H1 → Rel K F1 μ S1 H1 → RpL K F1 vs ds → okE K xc μ W F H σ (g ds S1) Q → R' vs H1) : okD K xc μ W F0 H0 σ r R' := by
  cases r with
  | ok b S1 => exact fun F1 H1 vs x r1 bv => k F1 H1 vs b S1 x r1 bv h
  | ex c p S1 => exact fun F' H' cls d e r q => h F' H' cls d (x.trans e) r q
  | bad => exact h
theorem mergeK_new : ∀ (more kvs : List (Key × V)), ((kvs ++ more).map (·.1)).Nodup → mergeK kvs more = kvs ++ more
  | [], kvs, _ => by rw [List.append_nil]; rfl
  | p :: r, kvs, h => by
    have hn : valV kvs p.1 = none := by
      cases e : valV kvs p.1 with
      | none => rfl
      | some v =>
        unfold valV at e
        obtain ⟨x, hx, _⟩ := Option.map_eq_some_iff.mp e
        have h1 : x.1 = p.1 := of_decide_eq_true (List.find?_some (p := fun kv : Key × V => decide (kv.1 = p.1)) hx)
        have h2 := List.mem_of_find?_eq_some hx
        rw [List.map_append, List.nodup_append] at h
        exact absurd h1 (h.2.2 _ (List.mem_map.mpr ⟨x, h2, rfl⟩) _ (by simp))
    show mergeK (putK kvs p.1 p.2) r = _
    rw [putK_new p.2 hn, mergeK_new r]
    · simp
    · simpa using h
/-- the core's pairs are a dict's -/
theorem dctOf_ok : ∀ {ps : List (V × V)} {xs ks vs : List D}, RpL K F (flatP ps) xs → dctOf xs = some (ks, vs) → ∃ kvs : List (Key × V), ps = kvs.map (fun kv => (kV kv.1, kv.2)) ∧ ks = kvs.map (fun p => keyD p.1) ∧ RpL K F (kvs.map (·.2)) vs ∧ (kvs.map (·.1)).Nodup
  | [], _, _, _, .nil, e => by
    cases e
    exact ⟨[], rfl, rfl, .nil, List.nodup_nil⟩
  | p :: ps, _, ks, vs, .cons (d := dk) hk (.cons (d := dv) (ds := r) hv hr), e => by
    have e : (dctOf r).bind (fun p => if keyOk dk && !(p.1.any fun j => keyEq j dk) then some (dk :: p.1, dv :: p.2) else none) = some (ks, vs) := e
    cases q : dctOf r with
    | none => rw [q] at e; cases e
    | some z =>
      obtain ⟨ks0, vs0⟩ := z
      rw [q] at e
      have e : (if keyOk dk && !(ks0.any fun j => keyEq j dk) then some (dk :: ks0, dv :: vs0) else none) = some (ks, vs) := e
      split at e
      · rename_i hb
        cases e
        obtain ⟨h1, h2⟩ := Bool.and_eq_true_iff.mp hb
        obtain ⟨kvs, e1, e2, e3, e4⟩ := dctOf_ok hr q
        obtain ⟨k, ed, ev⟩ := key_rp hk h1
        refine ⟨(k, p.2) :: kvs, ?_, ?_, .cons hv e3, ?_⟩
        · rw [List.map_cons, ← e1, ← ev]
        · rw [List.map_cons, ← e2, ← ed]
        · refine List.nodup_cons.mpr ⟨fun hm => ?_, e4⟩
          obtain ⟨x, hx, ex⟩ := List.mem_map.mp hm
          have : (ks0.any fun j => keyEq j dk) = true := List.any_eq_true.mpr ⟨keyD x.1, by rw [e2]; exact List.mem_map.mpr ⟨x, hx, rfl⟩, by rw [ed, key_eq, ex]; simp⟩
          rw [this] at h2
          cases h2
      · cases e
/-- {k: v, ..} -/
theorem r_dct {keys : List (Option Expr)} {vals : List Expr} {cs : List (Bool × CE)} {trs : List (TE × TE)} {pos : Pos} (hp : PPs X pos keys vals trs) (pr : Prs G X.K xc W cs trs) (hall : keys.all (·.isSome) = true) (hl : keys.length = vals.length) (h0 : keys ≠ []) (h15 : keys.length ≤ 15) :
    PE X (.Dict keys vals pos) (tM X.K xc W (ev G (.dct cs))) := by
  refine PE.weak (pe_disp hp hall hl h0 h15) fun σ H Q ⟨F, μ, S, ρ, rel, er, h⟩ p hp => ?_
  rw [show ev G (.dct cs) ρ S = (evs G cs ρ S).bind fun xs s => match dctOf xs with
      | some (ks, vs) => if ks.length ≤ 15 then .ok (.t (.dct ks vs)) s else .bad
      | none => .bad from rfl] at h
  have x0 : Ext μ F H F (upd H p (.dK [])) := Ext.newOwn hp nt_dK
  refine pairs_rd pr (Q := fun vs H1 => ∀ ps, flatP ps = vs → H1 p = some (.dK []) ∧ ∃ kvs : List (Key × V), ps = kvs.map (fun kv => (kV kv.1, kv.2)) ∧ kvs.length ≤ 15 ∧ Q (.ref p) (upd H1 p (.dK (mergeK [] kvs)))) (fun ps H1 w => w ps rfl)
    ⟨F, μ, S, ρ, rel.newOwn hp, er.step x0, okD_bindP h x0 fun F1 H1 vs ds S1 e1 r1 b1 h1 ps eps => ?_⟩
  have pm : p ∉ μ := (rel.out (.of hp)).2
  have pf : F p = none := (rel.out (.of hp)).1
  have p1 : H1 p = some (.dK []) := e1.keep p _ upd_same nt_dK pm
  have f1 : F1 p = none := (e1.fn p (lv upd_same nt_dK)).trans pf
  refine ⟨p1, ?_⟩
  rw [← eps] at b1
  cases q : dctOf ds with
  | none => rw [q] at h1; exact h1.elim
  | some z =>
    obtain ⟨ks, ws⟩ := z
    rw [q] at h1
    have h1 : okE X.K xc μ W F H σ (if ks.length ≤ 15 then .ok (.t (.dct ks ws)) S1 else .bad) Q := h1
    split at h1
    · rename_i hk
      obtain ⟨kvs, ep, ek, rv, nd⟩ := dctOf_ok b1 q
      have hlen : kvs.length ≤ 15 := by rw [ek, List.length_map] at hk; exact hk
      refine ⟨kvs, ep, hlen, ?_⟩
      rw [mergeK_new kvs [] (by simpa using nd), List.nil_append]
      have e01 := x0.trans e1
      have r2 := r1.fill f1 p1 pm (nt_dK (xs := kvs))
      have nf : ∀ a u, F1 a = some u → a ≠ p := fun a u e z => by rw [z] at e; rw [f1] at e; cases e
      have sF : Same F1 (upd F1 p (.dK kvs)) := fun a u e => by rw [upd_ne (nf a u e)]; exact e
      refine h1 _ _ (.ref p) ⟨fun a u e => sF a u (e01.fs a u e), fun a e => ?_, fun a u e m n => ?_, fun a e => gone_upd (e01.live a e) nt_dK⟩ r2 (by rw [ek]; exact .dct upd_same (rv.mono sF)) trivial
      · rw [upd_ne (goneNone e hp)]
        exact e01.fn a e
      · rw [upd_ne (goneNone (lv e m) hp)]
        exact e01.keep a u e m n
    · exact h1.elim
end
end Zw
set_option Elab.async false
set_option linter.all false
set_option maxRecDepth 100000
/-! ZwR: range(a, b, -1). -/
namespace Zw
open PySem PySem.Spec PyProof.Rows L2
section
variable {X : Cx} {K : PySem.W.Frag} {xc : Nat → Option XCls} {W : WX} {F : Hp} {μ : List Addr} {S : Store} {H : Hp} {σ : L2.St} {ρ : Env} {G : Gx}
theorem down_some {lo hi : Int} {xs : List D} (h : downD lo hi = some xs) : (-(2 ^ 62) ≤ lo ∧ lo < 2 ^ 62 ∧ -(2 ^ 62) ≤ hi ∧ hi < 2 ^ 62) ∧ xs = (List.range (lo - hi).toNat).map fun (k : Nat) => D.int (lo + (k : Int) * (-1)) := by
  unfold downD at h
  split at h
  · cases h; exact ⟨by assumption, rfl⟩
  · cases h
theorem wk_down {lo hi : Int} {xs : List D} {P : Hp → Hp → Prop} (h : xs = (List.range (lo - hi).toNat).map fun (k : Nat) => D.int (lo + (k : Int) * (-1))) : Wk K P (Itc lo (-1) (lo - hi).toNat) xs where
  go := fun i F H p hi => by
    subst h
    simp at hi
    show i < _
    omega
  stop := fun F H p => by
    subst h
    show _ ≤ _
    simp
  yld := fun i F H x H' p y hi => by
    obtain ⟨e, y⟩ := y
    subst h y
    refine ⟨F, .same rfl e, .int (lo + (i : Nat) * (-1)), ?_, .int _⟩
    rw [List.length_map, List.length_range] at hi
    rw [List.getElem?_map, List.getElem?_range hi]
    rfl
theorem seens_len : ∀ {bs : List B} {ds : List D}, seens bs = some ds → ds.length = bs.length
  | [], _, h => by cases h; rfl
  | b :: bs, ds, h => by
    have h : (b.seen.bind fun d => (seens bs).map (d :: ·)) = some ds := h
    cases q : b.seen with
    | none => rw [q] at h; cases h
    | some d =>
      rw [q] at h
      obtain ⟨es, e1, e2⟩ := Option.map_eq_some_iff.mp h
      rw [← e2, List.length_cons, List.length_cons, seens_len e1]
theorem walk5len : ∀ {ds xs : List D}, walk 5 ds = some xs → ds.length = 3
  | [], _, h => by simp [walk] at h
  | [_], _, h => by simp [walk] at h
  | [_, _], _, h => by simp [walk] at h
  | [_, _, _], _, _ => rfl
  | _ :: _ :: _ :: _ :: _, _, h => by simp [walk] at h
theorem seenW5len {bs : List B} {p : List B × List D} (h : seenW 5 bs = some p) : bs.length = 3 := by
  unfold seenW at h
  obtain ⟨xs, e1, _⟩ := Option.map_eq_some_iff.mp h
  obtain ⟨ds, e2, e3⟩ := Option.bind_eq_some_iff.mp e1
  rw [← seens_len e2, walk5len e3]
theorem seenW5 {b c d : B} {p : List B × List D} (h : seenW 5 [b, c, d] = some p) : ∃ n m, b.seen = some (.int n) ∧ c.seen = some (.int m) ∧ d.seen = some (.int (-1)) ∧ downD n m = some p.2 := by
  unfold seenW at h
  cases q : b.seen with
  | none => simp [seens, q] at h
  | some d1 =>
    cases q2 : c.seen with
    | none => simp [seens, q, q2] at h
    | some d2 =>
      cases q3 : d.seen with
      | none => simp [seens, q, q2, q3] at h
      | some d3 =>
        simp only [seens, q, q2, q3, Option.bind_some, Option.map_some] at h
        cases d1 with
        | int n =>
          cases d2 with
          | int m =>
            cases d3 with
            | int z =>
              obtain ⟨xs, e1, e2⟩ := Option.map_eq_some_iff.mp h
              have e1 : (if z = -1 then downD n m else none) = some xs := e1
              split at e1
              · rename_i hz
                subst hz
                exact ⟨n, m, rfl, rfl, rfl, by rw [← e2]; exact e1⟩
              · cases e1
            | _ => simp [walk] at h
          | _ => simp [walk] at h
        | _ => simp [walk] at h
theorem list3 {bs : List B} (h : bs.length = 3) : ∃ b c d, bs = [b, c, d] := by
  match bs, h with
  | [b, c, d], _ => exact ⟨b, c, d, rfl⟩
theorem i_range3 {tg a b e : Expr} {ca cb ce : CE} {p pos : Pos} (hg : L2.Gl X "range") (hm : X.mg "range" = none) (ha : PA X [a, b, e] (tML X.K xc W (evl G [ca, cb, ce]))) (hs : notStar a = true) (hs2 : notStar b = true) (hs3 : notStar e = true) :
    PI X tg (.Call (.Name "range" p) [a, b, e] [] pos) (tMI X.K xc W (wkM G 5 [ca, cb, ce])) := by
  have hall : [b, e].all notStar = true := by rw [List.all_cons, List.all_cons, hs2, hs3]; rfl
  have hpl0 : (backTo pos (starEach [b, e] X.env)).any (·.1) = false := backTo_plain hall
  refine PI.weak (pi_range3 hg hm ha (starEach_plain hs) hpl0) fun σ H Q ⟨F, μ, S, ρ, rel, er, h⟩ => ⟨F, μ, S, ρ, rel, er, okL_of (g := seenW 5) h fun F1 H1 vs bs S1 p e1 r1 b1 hp k => ?_⟩
  have hl := seenW5len hp
  obtain ⟨b0, c0, d0, rfl⟩ := list3 hl
  obtain ⟨n, m, hb, hc, hd, hr⟩ := seenW5 hp
  obtain ⟨l, ex⟩ := down_some hr
  cases b1 with
  | cons bv rr =>
    cases rr with
    | cons cv rr =>
      cases rr with
      | cons dv rr =>
        cases rr
        rw [seen_int bv hb, seen_int cv hc, seen_int dv hd]
        exact ⟨n, m, -1, (n - m).toNat, rfl, RgC.neg l.1 l.2.1 l.2.2.1 l.2.2.2, k (Itc n (-1) (n - m).toNat) ⟨wk_down ex, fun _ => wk_down ex⟩⟩
end
end Zw
set_option Elab.async false
set_option linter.all false
set_option maxRecDepth 100000
/-! ZwG: list(range(..)), tuple(range(..)); the module's dicts. -/
namespace Zw
open PySem PySem.Spec PyProof.Rows L2
section
variable {K : PySem.W.Frag} {F : Hp}
theorem rpl_rg (a : Int) : ∀ l : List Nat, RpL K F (l.map fun i => V.int (a + (i : Nat))) (l.map fun (i : Nat) => D.int (a + (i : Nat)))
  | [] => .nil
  | i :: l => .cons (.int _) (rpl_rg a l)
theorem rpl_rgV (a b : Int) : RpL K F (rgV a b) (rgD a b) := rpl_rg a _
end
section
variable {X : Cx} {xc : Nat → Option XCls} {W : WX} {G : Gx}
theorem lrg_rd {K : PySem.W.Frag} {F H : Hp} {μ : List Addr} {S : Store} {σ : L2.St} {Q : VK} {t : Bool} {a b : Int} (r : Rel K F μ S H) (h : okE K xc μ W F H σ (lrgR t a b S) Q) :
    RgOk a b ∧ ∀ q, H q = none → Q (.ref q) (upd H q (if t then .tup (rgV a b) else .lst (rgV a b))) := by
  unfold lrgR at h
  by_cases c : -(2 ^ 62) ≤ a ∧ a < 2 ^ 62 ∧ -(2 ^ 62) ≤ b ∧ b < 2 ^ 62 ∧ (b - a).toNat ≤ 2 ^ 24
  · rw [if_pos c] at h
    refine ⟨c, fun q hq => ?_⟩
    cases t with
    | true => exact okE_tup h r (rpl_rgV a b) hq
    | false => exact okE_lst h r (rpl_rgV a b) hq
  · rw [if_neg c] at h; exact h.elim
theorem lrg1_rd {t : Bool} {c : CE} {σ : L2.St} {H : Hp} {Q : VK} (z : tM X.K xc W (ev G (.lrg1 t c)) σ H Q) : tRg1 (tM X.K xc W (ev G c)) σ H fun a b H1 => RgOk a b ∧ ∀ q, H1 q = none → Q (.ref q) (upd H1 q (if t then .tup (rgV a b) else .lst (rgV a b))) := by
  obtain ⟨F, μ, S, ρ, rel, er, h⟩ := z
  rw [show ev G (.lrg1 t c) ρ S = (ev G c ρ S).bind fun b s => match b with
      | .t (.int n) => lrgR t 0 n s
      | _ => .bad from rfl] at h
  refine ⟨F, μ, S, ρ, rel, er, okE_bind h fun F1 H1 v b S1 e1 r1 b1 f1 h1 => ?_⟩
  split at h1
  · rename_i n
    exact ⟨n, by rw [rp_int b1], lrg_rd r1 h1⟩
  · exact h1.elim
theorem r_lrg1 {t : Bool} {c : CE} {e : Expr} {x : Str} {p p2 pos p3 : Pos} (hc : X.calm = true) (he : PE X e (tM X.K xc W (ev G c))) (hg : L2.Gl X "range") (hm : X.mg "range" = none) (hs : notStar e = true)
    (hx : x = if t then "tuple" else "list") (hg2 : L2.Gl X x) (hm2 : X.mg x = none) : PE X (.Call (.Name x p) [.Call (.Name "range" p2) [e] [] pos] [] p3) (tM X.K xc W (ev G (.lrg1 t c))) := by
  have pr := prg_1 (p := p2) (pos := pos) hg hm he (starEach_plain hs)
  cases t with
  | true => subst hx; exact PE.weak (pe_tupRg hc hg2 hm2 pr) fun σ H Q z => lrg1_rd z
  | false => subst hx; exact PE.weak (pe_listRg hc hg2 hm2 pr) fun σ H Q z => lrg1_rd z
theorem lrg2_rd {t : Bool} {c d : CE} {σ : L2.St} {H : Hp} {Q : VK} (z : tM X.K xc W (ev G (.lrg2 t c d)) σ H Q) : tRg2 (tM X.K xc W (ev G c)) (tM X.K xc W (ev G d)) σ H fun a b H1 => RgOk a b ∧ ∀ q, H1 q = none → Q (.ref q) (upd H1 q (if t then .tup (rgV a b) else .lst (rgV a b))) := by
  obtain ⟨F, μ, S, ρ, rel, er, h⟩ := z
  rw [show ev G (.lrg2 t c d) ρ S = (ev G c ρ S).bind fun x s => (ev G d ρ s).bind fun y s => match x, y with
      | .t (.int i), .t (.int j) => lrgR t i j s
      | _, _ => .bad from rfl] at h
  refine ⟨F, μ, S, ρ, rel, er, okE_bind h fun F1 H1 v b S1 e1 r1 b1 f1 h1 => ⟨F1, μ, S1, ρ, r1, er.step e1, okE_bind h1 fun F2 H2 w b2 S2 e2 r2 bb f2 h2 => ?_⟩⟩
  split at h2
  · rename_i i j
    exact ⟨i, j, by rw [rp_int b1], by rw [rp_int bb], lrg_rd r2 h2⟩
  · exact h2.elim
theorem r_lrg2 {t : Bool} {c d : CE} {e e' : Expr} {x : Str} {p p2 pos p3 : Pos} (hc : X.calm = true) (he : PE X e (tM X.K xc W (ev G c))) (hd : PE X e' (tM X.K xc W (ev G d))) (hg : L2.Gl X "range") (hm : X.mg "range" = none) (hs : notStar e = true) (hs' : notStar e' = true)
    (hx : x = if t then "tuple" else "list") (hg2 : L2.Gl X x) (hm2 : X.mg x = none) : PE X (.Call (.Name x p) [.Call (.Name "range" p2) [e, e'] [] pos] [] p3) (tM X.K xc W (ev G (.lrg2 t c d))) := by
  have pr := prg_2 (p := p2) (pos := pos) hg hm he hd (starEach_plain hs) (starEach_plain hs') (backTo_plain (by simp [hs']))
  cases t with
  | true => subst hx; exact PE.weak (pe_tupRg hc hg2 hm2 pr) fun σ H Q z => lrg2_rd z
  | false => subst hx; exact PE.weak (pe_listRg hc hg2 hm2 pr) fun σ H Q z => lrg2_rd z
/-! ### the module's dicts -/
/-- what the dict at a holds -/
structure GdOk (K : PySem.W.Frag) (w : World) (a : Addr) (ks : List Str) (vs : List D) : Prop where
  kd : ∃ es n, KDict K w a es n
  none : ∀ z, gdGet z ks vs = none → PySem.W.nsIn K a z = some none
  some : ∀ z d, gdGet z ks vs = some d → ∃ u v, PySem.W.nsIn K a z = some (some u) ∧ RelV v u ∧ ∀ F, Rp K F v d
/-- `in`, `not in` of such a dict, by the core -/
theorem gin_rd {kk : Bool} {c : CE} {g : Nat} {a : Addr} (hy : ∀ ks vs, G.gd g = some (ks, vs) → GdOk X.K X.w a ks vs) {σ : L2.St} {H : Hp} {Q : VK} (q : tM X.K xc W (ev G (.gin kk c g)) σ H Q) :
    tM X.K xc W (ev G c) σ H fun x H1 => ∃ (z : Str) (r : Option Value), x = .str z ∧ PySem.W.nsIn X.K a z = some r ∧ Q (.bl (r.isSome == kk)) H1 := by
  obtain ⟨F, μ, S, ρ, rel, er, h⟩ := q
  rw [show ev G (.gin kk c g) ρ S = (ev G c ρ S).bind fun b s => match b, G.gd g with
      | .t (.str z), some (ks, vs) => .ok (.t (.bl ((gdGet z ks vs).isSome == kk))) s
      | _, _ => .bad from rfl] at h
  refine ⟨F, μ, S, ρ, rel, er, okE_bind h fun F1 H1 v b S1 e1 r1 b1 f1 h1 => ?_⟩
  split at h1
  · rename_i z ks vs eg
    have ok := hy ks vs eg
    have ev1 : v = .str z := by cases b1; rfl
    have fin := okE_val (v := .bl ((gdGet z ks vs).isSome == kk)) h1 r1 (.bl _) trivial
    cases q2 : gdGet z ks vs with
    | none =>
      rw [q2] at fin
      exact ⟨z, none, ev1, ok.none z q2, fin⟩
    | some d =>
      rw [q2] at fin
      obtain ⟨u, v2, e2, _, _⟩ := ok.some z d q2
      exact ⟨z, some u, ev1, e2, fin⟩
  · exact h1.elim
theorem gin_op {kk : Bool} {a : Addr} {es : Array DictEntry} {n : Nat} (D : KDict X.K X.w a es n) : OpR X (compareOp (if kk then CmpOp.In else CmpOp.NotIn)) (fun x y H Q => ∃ (z : Str) (r : Option Value), x = .str z ∧ y = .ref a ∧ PySem.W.nsIn X.K a z = some r ∧ Q (.bl (r.isSome == kk)) H) := by
  cases kk with
  | true =>
    intro pins s σ H x y v u Q I rx ry ⟨z, r, e1, e2, e3, q⟩
    exact op_in_kd D pins s σ H x y v u Q I rx ry ⟨z, r, e1, e2, e3, by simpa using q⟩
  | false =>
    intro pins s σ H x y v u Q I rx ry ⟨z, r, e1, e2, e3, q⟩
    exact op_notIn_kd D pins s σ H x y v u Q I rx ry ⟨z, r, e1, e2, e3, by cases r <;> simpa using q⟩
theorem r_gin {kk : Bool} {c : CE} {g : Nat} {e : Expr} {y : Str} {p pos : Pos} {a : Addr} (hk : ∃ es n, KDict X.K X.w a es n) (hy : ∀ ks vs, G.gd g = some (ks, vs) → GdOk X.K X.w a ks vs) (hmy : X.mg y = some (.ref a)) (hgy : L2.Gl X y) (hdy : (y == ("__debug__" : Str)) = false) (he : PE X e (tM X.K xc W (ev G c))) :
    PE X (.Compare e [if kk then CmpOp.In else CmpOp.NotIn] [.Name y p] pos) (tM X.K xc W (ev G (.gin kk c g))) := by
  obtain ⟨es, n, D⟩ := hk
  refine PE.weak (pe_cmpR (gin_op (kk := kk) D) he (pe_glob (v := .ref a) hgy hmy rfl hdy) (by cases kk <;> rfl)) fun σ H Q q => ?_
  refine tM_mono (gin_rd hy q) fun x H1 ⟨z, r, e1, e2, e3⟩ => ⟨z, r, e1, rfl, e2, e3⟩
theorem isBl_gin {kk : Bool} {c : CE} {g : Nat} : IsBl (ev G (.gin kk c g)) := by
  intro ρ s b s' h
  rw [show ev G (.gin kk c g) ρ s = (ev G c ρ s).bind fun b s => match b, G.gd g with
      | .t (.str z), some (ks, vs) => .ok (.t (.bl ((gdGet z ks vs).isSome == kk))) s
      | _, _ => .bad from rfl] at h
  cases q : ev G c ρ s with
  | ok x s1 =>
    rw [q] at h
    simp only [R.bind] at h
    split at h
    · cases h; exact ⟨_, rfl⟩
    · cases h
  | ex c p s1 => rw [q] at h; cases h
  | bad => rw [q] at h; cases h
theorem t_gin {kk : Bool} {c : CE} {g : Nat} {e : Expr} {y : Str} {p pos : Pos} {a : Addr} (hk : ∃ es n, KDict X.K X.w a es n) (hy : ∀ ks vs, G.gd g = some (ks, vs) → GdOk X.K X.w a ks vs) (hmy : X.mg y = some (.ref a)) (hgy : L2.Gl X y) (hdy : (y == ("__debug__" : Str)) = false) (he : PE X e (tM X.K xc W (ev G c))) :
    PT X (.Compare e [if kk then CmpOp.In else CmpOp.NotIn] [.Name y p] pos) (tMT X.K xc W (evT G (.gin kk c g))) := by
  obtain ⟨es, n, D⟩ := hk
  refine PT.weak (pt_cmpR (gin_op (kk := kk) D) he (pe_glob (v := .ref a) hgy hmy rfl hdy) (by cases kk <;> rfl)) fun σ H Q q => ?_
  have q2 := tru_rdB (m := ev G (.gin kk c g)) isBl_gin q
  refine tM_mono (gin_rd hy q2) fun x H1 ⟨z, r, e1, e2, k, e3, e4⟩ => ⟨z, r, e1, rfl, e2, k, e3, e4⟩
theorem r_gix {c : CE} {g : Nat} {e : Expr} {y : Str} {p pos : Pos} {a : Addr} (hy : ∀ ks vs, G.gd g = some (ks, vs) → GdOk X.K X.w a ks vs) (hmy : X.mg y = some (.ref a)) (hgy : L2.Gl X y) (hdy : (y == ("__debug__" : Str)) = false) (he : PE X e (tM X.K xc W (ev G c))) (hs : notSlice e = true) :
    PE X (.Subscript (.Name y p) e pos) (tM X.K xc W (ev G (.gix g c))) := by
  refine PE.weak (pe_ix ix_kdict (pe_glob (v := .ref a) hgy hmy rfl hdy) he (plainIx hs)) fun σ H Q ⟨F, μ, S, ρ, rel, er, h⟩ => ?_
  rw [show ev G (.gix g c) ρ S = (ev G c ρ S).bind fun b s => match b, G.gd g with
      | .t (.str z), some (ks, vs) => .of ((gdGet z ks vs).map .t) s
      | _, _ => .bad from rfl] at h
  refine ⟨F, μ, S, ρ, rel, er, okE_bind h fun F1 H1 v b S1 e1 r1 b1 f1 h1 => ?_⟩
  split at h1
  · rename_i z ks vs eg
    have ok := hy ks vs eg
    obtain ⟨es, n, kd⟩ := ok.kd
    have ev1 : v = .str z := by cases b1; rfl
    cases q2 : gdGet z ks vs with
    | none => rw [q2] at h1; exact h1.elim
    | some d =>
      rw [q2] at h1
      obtain ⟨u, v2, e2, e3, e4⟩ := ok.some z d q2
      exact ⟨a, z, v2, rfl, ev1, ⟨es, n, u, kd.at_, kd.lit, e2, e3⟩, okE_val h1 r1 (e4 _) trivial⟩
  · exact h1.elim
end
end Zw
set_option Elab.async false
set_option linter.all false
set_option maxRecDepth 100000
/-! ZwW: x[i], x[j] = e. -/
namespace Zw
open PySem PySem.Spec PyProof.Rows L2
section
variable {X : Cx} {K : PySem.W.Frag} {xc : Nat → Option XCls} {W : WX} {F0 F H0 H F1 H1 : Hp} {μ0 μ : List Addr} {S S1 : Store} {σ : L2.St} {ρ : Env} {G : Gx} {D : Ends}
theorem lst_put {i : Nat} {xs : List Zw.D} (s : SR K F0 μ0 H0 F μ S H ρ σ) (h : lstAt i ρ S = some xs) : ∃ a vs, σ[i]? = some (some (V.ref a)) ∧ H a = some (.lst vs) ∧ RpL K F vs xs ∧
    ∀ ys vs', RpL K F vs' ys → ∃ ρ' S', lstPut i ys ρ S = .nx ρ' S' ∧ SR K F0 μ0 H0 F μ S' (upd H a (.lst vs')) ρ' σ := by
  unfold lstAt at h
  cases q : ρ[i]? with
  | none => rw [q] at h; cases h
  | some o => cases o with
    | none => rw [q] at h; cases h
    | some b => cases b with
      | own d => cases d with
        | lst ds =>
          rw [q] at h
          cases h
          obtain ⟨v, h1, a, vs, ds, e1, e2, ha, rs, n, m⟩ := s.er.val i _ q
          cases e1
          cases e2
          refine ⟨a, vs, h1, ha, rs, fun ys vs' r => ?_⟩
          unfold lstPut
          rw [q]
          exact ⟨_, _, rfl, s.updOwn q h1 r⟩
        | _ => rw [q] at h; cases h
      | r k =>
        rw [q] at h
        obtain ⟨v, h1, a, e1, hk⟩ := s.er.val i _ q
        subst e1
        have h : (match S[k]? with | some (.lst xs) => some xs | _ => none) = some xs := h
        cases q2 : S[k]? with
        | none => rw [q2] at h; cases h
        | some o => cases o with
          | lst zs =>
            rw [q2] at h
            cases h
            obtain ⟨vs, h2, h3⟩ := s.rel.obj k a _ hk q2
            refine ⟨a, vs, h1, h2, h3, fun ys vs' r => ?_⟩
            unfold lstPut
            rw [q]
            exact ⟨_, _, rfl, s.updRef hk q2 r⟩
          | obj _ _ => rw [q2] at h; cases h
      | _ => rw [q] at h; cases h
/-- one store -/
theorem putA_rd {i : Nat} {k : CE} {d : Zw.D} {v : V} {g : Env → Store → RS} {Q : L2.St → Hp → Prop} (s : SR K F0 μ0 H0 F μ S H ρ σ) (hd : Rp K F v d) (h : okSt K xc F0 μ0 H0 W D (match lstAt i ρ S with
    | none => .bad
    | some _ => (ev G k ρ S).to ρ fun w s => putA i w d ρ s g))
    (kk : ∀ F2 S2 H2 ρ2, SR K F0 μ0 H0 F2 μ S2 H2 ρ2 σ → Same F F2 → okSt K xc F0 μ0 H0 W D (g ρ2 S2) → Q σ H2) : gSub (tVar i) (tM K xc W (ev G k)) rSetL v σ H Q := by
  cases q2 : lstAt i ρ S with
  | none => rw [q2] at h; exact h.elim
  | some xs =>
    rw [q2] at h
    obtain ⟨a, vs, hσ, _⟩ := lst_put s q2
    refine ⟨.ref a, hσ, F, μ, S, ρ, s.rel, s.er, toE s h fun F2 H2 w bw S2 e2 s2 bwv fr h2 => ?_⟩
    unfold putA at h2
    cases q3 : lstAt i ρ S2 with
    | none => rw [q3] at h2; split at h2 <;> first | exact h2.elim | (rename_i z; cases z)
    | some ys =>
    rw [q3] at h2
    split at h2
    · rename_i n zs ez
      cases ez
      cases q4 : ixN ys.length n with
      | none => rw [q4] at h2; exact h2.elim
      | some j =>
        rw [q4] at h2
        obtain ⟨a2, vs2, hσ2, ha2, r2, fin⟩ := lst_put s2 q3
        rw [hσ] at hσ2
        cases hσ2
        obtain ⟨ρ3, S3, e3, s3⟩ := fin _ _ (r2.set (hd.mono e2.fs) j)
        dsimp only at h2
        rw [e3] at h2
        exact ⟨a, vs2, n, j, rfl, rp_int bwv, ha2, by rw [r2.length]; exact q4, kk _ _ _ _ s3 e2.fs h2⟩
    · exact h2.elim
theorem s_swp {i kt : Nat} {o o' e k k' : Expr} {c ck ck' : CE} {pos p1 p2 pt : Pos} (hc : X.calm = true) (ho : PE X o (tVar i)) (ho' : PE X o' (tVar i)) (hk : PE X k (tM X.K xc W (ev G ck))) (hk' : PE X k' (tM X.K xc W (ev G ck'))) (he : PE X e (tM X.K xc W (ev G c)))
    (hs : swapsWithSole [.Tuple [.Subscript o k p1, .Subscript o' k' p2] kt pt] e pos.line X.env = pure false)
    (hw : swappedStores [.Tuple [.Subscript o k p1, .Subscript o' k' p2] kt pt] e X.env = pure none)
    (ha : ∀ v, assign (.Subscript o k p1) X.env v = (do
      let ov ← holding [v] (eval o X.env)
      let iv ← holding [v, ov] (eval k X.env)
      standAt p1
      holding [v, ov, iv] (setItem ov iv v)
      release [v, ov, iv] []))
    (ha' : ∀ v, assign (.Subscript o' k' p2) X.env v = (do
      let ov ← holding [v] (eval o' X.env)
      let iv ← holding [v, ov] (eval k' X.env)
      standAt p2
      holding [v, ov, iv] (setItem ov iv v)
      release [v, ov, iv] [])) : PS X (.Assign [.Tuple [.Subscript o k p1, .Subscript o' k' p2] kt pt] e pos) (tMS X.K xc W (exec G (.swp i ck ck' c))) :=
  PS.weak (ps_asg he (pg_tup hc (pgs_cons (pg_sub ho hk set_list ha) (pgs_cons (pg_sub ho' hk' set_list ha') pgs_nil rfl) rfl) rfl rfl) hs hw rfl) fun D σ H ⟨F0, μ0, H0, F, μ, S, ρ, s, h⟩ => by
    refine ⟨F, μ, S, ρ, s.rel, s.er, toE s (by rw [exec] at h; exact h) fun F1 H1 v b S1 e1 s1 bv fr h1 => ?_⟩
    split at h1
    · rename_i x y
      have bv : Rp X.K F1 v (.tup [x, y]) := bv
      cases bv with
      | @tup a vs _ sq rs =>
        cases rs with
        | @cons v1 _ _ _ r1 rs =>
          cases rs with
          | @cons v2 _ _ _ r2 rs =>
            cases rs
            refine ⟨a, [v1, v2], rfl, sqT_sub s1.rel.sub sq, rfl, v1, [v2], rfl, putA_rd s1 r1 h1 fun F2 S2 H2 ρ2 s2 m2 h2 => ?_⟩
            refine ⟨v2, [], rfl, putA_rd s2 (r2.mono m2) h2 fun F3 S3 H3 ρ3 s3 m3 h3 => ⟨rfl, ?_⟩⟩
            exact h3 F3 μ H3 σ s3
    · exact h1.elim
end
end Zw
set_option Elab.async false
set_option linter.all false
set_option maxRecDepth 100000
/-! Zw10: the text against the core: a check by computation. -/
namespace Zw
open PySem PySem.Spec PyProof.Rows L2
/-! ### what is checked in -/
/-- one law's names -/
structure Ck where
  fnm : List Str
  gcn : List Str
  free : List Str
  gcd : Bool
  /-- classes of exceptions, defs that call what they get, defs that make lambdas -/
  clm : List Str := []
  tlm : List Str := []
  mkr : List Str := []
  /-- classes with slots, the slots; defs that look for the first odd item; the exceptions' attributes -/
  slc : List (Str × List Str) := []
  odm : List Str := []
  cla : List (Nat × Str) := []
  /-- methods: the class, the name; classes whose instances change -/
  mtm : List (Str × Str) := []
  obm : List Str := []
  /-- the module's dicts -/
  gdn : List Str := []
def Ck.attr (M : Ck) (c : Nat) : Option Str := M.cla.lookup c
/-- a block's names -/
structure CkE where
  N : List Str
  sc : Scope
  fn : Str → Bool
  lam : Bool := false
theorem b2a {a b : Bool} (h : (a && b) = true) : a = true ∧ b = true := Bool.and_eq_true_iff.mp h
def okName (x : Str) : Bool := !(x == ("__debug__" : Str)) && !(x == ("__classdict__" : Str))
def visB (sc : Scope) (x : Str) : Bool := match sc.names.lookup x with
  | some .local => true
  | some .cell => true
  | some .free => true
  | _ => false
def locB (sc : Scope) (x : Str) : Bool := match sc.names.lookup x with
  | some .local => true
  | some .cell => true
  | _ => false
def localB (sc : Scope) (x : Str) : Bool := match sc.names.lookup x with
  | some .local => true
  | _ => false
def glB (sc : Scope) (x : Str) : Bool := match sc.names.lookup x with
  | some .globalImplicit => true
  | _ => false
def atB (xs : List Str) (i : Nat) (x : Str) : Bool := decide (xs[i]? = some x)
def constB : Const → D → Bool
  | .none, .non => true
  | .bool b, .bl c => b == c
  | .int i, .int j => decide (i = j)
  | .str s, .str t => decide (s = t)
  | _, _ => false
def biNm : Bi → Option Str
  | .len => some "len"
  | .abs => some "abs"
  | .int => some "int"
  | .all => some "all"
  | .any => some "any"
  | .repr => some "repr"
  | .tuple => some "tuple"
  | .list => some "list"
  | .sum => some "sum"
  | _ => none
def biNm2 : Bi → Option Str
  | .max2 => some "max"
  | .min2 => some "min"
  | _ => none
def strEq (a b : Str) : Bool := decide (a = b)
def opEq : Operator → Operator → Bool
  | .Add, .Add => true
  | .Sub, .Sub => true
  | .Mult, .Mult => true
  | .Mod, .Mod => true
  | .FloorDiv, .FloorDiv => true
  | .Pow, .Pow => true
  | _, _ => false
def cmEq : CmpOp → CmpOp → Bool
  | .Eq, .Eq => true
  | .NotEq, .NotEq => true
  | .Lt, .Lt => true
  | .LtE, .LtE => true
  | .Gt, .Gt => true
  | .GtE, .GtE => true
  | .Is, .Is => true
  | .IsNot, .IsNot => true
  | .In, .In => true
  | .NotIn, .NotIn => true
  | _, _ => false
/-- a test of no form of its own -/
def plainT : Expr → Bool
  | .UnaryOp .. => false
  | .BoolOp .. => false
  | .IfExp .. => false
  | .Compare .. => false
  | _ => true
def notSet : Expr → Bool
  | .Set .. => false
  | _ => true
def ownOf (N : List Str) (own : List Nat) : List (Str × Nat) := own.filterMap fun i => (N[i]?).map fun x => (x, i)
/-- the comprehension's block -/
def CkE.blk (E : CkE) (scope : Scope) : CkE := ⟨E.N, relS scope E.sc, fun x => match scope.names.lookup x with
  | some .cell => true
  | _ => false, false⟩
mutual
def chkG (E : CkE) : Tg → Expr → Bool
  | .nm i, .Name x _ => atB E.N i x && locB E.sc x && (E.fn x || localB E.sc x)
  | .tup ts, .Tuple es _ _ => chkGs E ts es
  | _, _ => false
def chkGs (E : CkE) : List Tg → List Expr → Bool
  | [], [] => true
  | t :: ts, e :: es => notStar e && chkG E t e && chkGs E ts es
  | _, _ => false
end
def allB {α β : Type} (f : α → β → Bool) : List α → List β → Bool
  | [], [] => true
  | a :: as, b :: bs => f a b && allB f as bs
  | _, _ => false
def starB (f : CE → Expr → Bool) : List (Bool × CE) → List Expr → Bool
  | [], [] => true
  | (true, c) :: cs, .Starred e _ :: es => f c e && starB f cs es
  | (false, c) :: cs, e :: es => notStar e && f c e && starB f cs es
  | _, _ => false
/-- the pairs of a dict as it is written -/
def dctB (f : CE → Expr → Bool) : List (Bool × CE) → List (Option Expr) → List Expr → Bool
  | [], [], [] => true
  | (false, k) :: (false, v) :: cs, some e :: es, x :: xs => f k e && f v x && dctB f cs es xs
  | _, _, _ => false
def optB (f : CE → Expr → Bool) : Option CE → Option Expr → Bool
  | none, none => true
  | some c, some e => f c e
  | _, _ => false
def tyNm (ty : Ty) (x : Str) : Bool := match ty.name with
  | some n => decide (x = Str.ofString n)
  | none => false
def freeB (M : Ck) (E : CkE) (x : Str) : Bool := glB E.sc x && decide (x ∈ M.free)
def isTupE : Expr → Bool
  | .Tuple .. => true
  | _ => false
def noArgs : Arguments → Bool
  | ⟨[], [], none, [], [], none, []⟩ => true
  | _ => false
def slB (M : Ck) (y : Str) (i : Nat) (f : Str) : Bool := M.slc.any fun p => decide (p.1 = y) && decide (p.2[i]? = some f)
def slcB (M : Ck) (y : Str) : Bool := M.slc.any fun p => decide (p.1 = y)
def oneArg : Arguments → Option Str
  | ⟨[], [a], none, [], [], none, []⟩ => some a.arg
  | _ => none
def oddB (M : Ck) (E : CkE) (o : Nat) (x : Str) : Bool := atB M.odm o x && glB E.sc x && okName x
def oddLB (E : CkE) (q : Str) (ps : Arguments) (sc : Scope) : Bool := E.lam && decide (oneArg ps = some q) && lamPB E.sc sc q && !(E.N.any fun y => decide (y = q))
def methB (M : Ck) (y : Str) (f : Nat) (m : Str) : Bool := decide (M.fnm.length ≤ f) && decide (M.mtm[f - M.fnm.length]? = some (y, m))
def newB (M : Ck) (E : CkE) (c : Nat) (y : Str) : Bool := atB M.obm c y && glB E.sc y && okName y
def nameB (M : Ck) (E : CkE) (f : Nat) (y : Str) : Bool := atB M.fnm f y && glB E.sc y && okName y
def tellB (M : Ck) (E : CkE) (t : Nat) (x : Str) (ps : Arguments) (sc : Scope) : Bool := atB M.tlm t x && glB E.sc x && okName x && E.lam && LamX.lamSB E.sc sc && noArgs ps
def itB (M : Ck) (E : CkE) (f : CE → Expr → Bool) (tg : Expr) : Nat → List CE → Expr → Bool
  | 0, [c], e => f c e && notSet e
  | 1, [c], .Call (.Name x _) [e] [] _ => strEq x "range" && freeB M E x && f c e && notStar e
  | 2, [c, d], .Call (.Name x _) [e, e'] [] _ => strEq x "range" && freeB M E x && f c e && notStar e && f d e' && notStar e'
  | 3, [c], .Call (.Name x _) [e] [] _ => strEq x "enumerate" && freeB M E x && f c e && notStar e && isTupE tg
  | 4, [c, d], .Call (.Name x _) [e, e'] [] _ => strEq x "zip" && freeB M E x && f c e && notStar e && f d e' && notStar e' && isTupE tg
  | 5, [c, d, c3], .Call (.Name x _) [e, e', e3] [] _ => strEq x "range" && freeB M E x && f c e && notStar e && f d e' && notStar e' && f c3 e3 && notStar e3
  | _, _, _ => false
def compB (M : Ck) (E : CkE) (f : CkE → CE → Expr → Bool) (t : CkE → CE → Expr → Bool) (kind : Nat) (its : List CE) (tg : Tg) (own : List Nat) (conds : List CE) (elt : CE) (el tge it : Expr) (ifs : List Expr) (scope : Scope) : Bool :=
  itB M E (f E) tge kind its it && blkC E.N E.sc scope (ownOf E.N own) && decide ((ownOf E.N own).map (·.2) = own) && (tg.slots.all fun i => decide (i ∈ own)) && chkG (E.blk scope) tg tge &&
    (match conds, ifs with
      | [], [] => true
      | [c], [e] => t (E.blk scope) c e
      | _, _ => false) && f (E.blk scope) elt el
/-- list(range(..)), tuple(range(..)) -/
def lrgB (M : Ck) (E : CkE) (f : CE → Expr → Bool) (t : Bool) : List CE → Expr → Bool
  | [a], .Call (.Name x _) [.Call (.Name y _) [e] [] _] [] _ => strEq x (if t then "tuple" else "list") && freeB M E x && strEq y "range" && freeB M E y && f a e && notStar e
  | [a, b], .Call (.Name x _) [.Call (.Name y _) [e, e'] [] _] [] _ => strEq x (if t then "tuple" else "list") && freeB M E x && strEq y "range" && freeB M E y && f a e && notStar e && f b e' && notStar e'
  | _, _ => false
def gdB (M : Ck) (E : CkE) (g : Nat) : Expr → Bool
  | .Name y _ => atB M.gdn g y && glB E.sc y && okName y
  | _ => false
def callB (M : Ck) (E : CkE) (f : CE → Expr → Bool) (g : Nat) (cs : List CE) (x : Str) (es : List Expr) : Bool := atB M.fnm g x && glB E.sc x && okName x && es.all notStar && allB f cs es
mutual
def chkE (M : Ck) : Nat → CkE → CE → Expr → Bool
  | 0, _, _, _ => false
  | n + 1, E, c, e => match c with
    | .var i => (match e with
      | .Name x _ => atB E.N i x && visB E.sc x && okName x
      | _ => false)
    | .cst d => (match e with
      | .Constant k _ _ => constB k d
      | _ => false)
    | .gc g => (match e with
      | .Name x _ => atB M.gcn g x && glB E.sc x && okName x
      | _ => false)
    | .bin op a b => (match e with
      | .BinOp l o r _ => opEq (opOf op) o && chkE M n E a l && chkE M n E b r
      | _ => false)
    | .neg a => (match e with
      | .UnaryOp .USub x _ => chkE M n E a x
      | _ => false)
    | .notv a => (match e with
      | .UnaryOp .Not x _ => chkE M n E a x
      | _ => false)
    | .andv cs => (match e with
      | .BoolOp .And es _ => !cs.isEmpty && allB (chkE M n E) cs es
      | _ => false)
    | .orv cs => (match e with
      | .BoolOp .Or es _ => !cs.isEmpty && allB (chkE M n E) cs es
      | _ => false)
    | .cmp op a b => (match e with
      | .Compare l [o] [r] _ => cmEq (cmOf op) o && notSet r && chkE M n E a l && chkE M n E b r
      | _ => false)
    | .chain o1 o2 a b c => (match e with
      | .Compare l [p1, p2] [m, r] _ => cmEq (cmOf o1) p1 && cmEq (cmOf o2) p2 && notSet m && notSet r && chkE M n E a l && chkE M n E b m && chkE M n E c r
      | _ => false)
    | .ife c a b => (match e with
      | .IfExp t x y _ => chkT M n E c t && chkE M n E a x && chkE M n E b y
      | _ => false)
    | .tup cs => (match e with
      | .Tuple es _ _ => starB (chkE M n E) cs es
      | _ => false)
    | .lst cs => (match e with
      | .List es _ => starB (chkE M n E) cs es
      | _ => false)
    | .ix a b => (match e with
      | .Subscript x i _ => notSlice i && chkE M n E a x && chkE M n E b i
      | _ => false)
    | .sl a lo hi => (match e with
      | .Subscript x (.Slice l h none _) _ => chkE M n E a x && optB (chkE M n E) lo l && optB (chkE M n E) hi h
      | _ => false)
    | .call f cs => (match e with
      | .Call (.Name x _) es [] _ => callB M E (chkE M n E) f cs x es
      | _ => false)
    | .b1 f a => (match e with
      | .Call (.Name x _) [e] [] _ => decide (biNm f = some x) && freeB M E x && chkE M n E a e && notStar e
      | .Call (.Name x _) [e, .Name y _] [] _ => (match f with
        | .isi (.cls z) => strEq x "isinstance" && freeB M E x && decide (z = y) && slcB M y && glB E.sc y && okName y && chkE M n E a e && notStar e
        | .isi ty => strEq x "isinstance" && freeB M E x && tyNm ty y && freeB M E y && chkE M n E a e && notStar e
        | _ => false)
      | _ => false)
    | .b2 f a b => (match e with
      | .Call (.Name x _) [e, e'] [] _ => (match f with
        | .gcd => strEq x "gcd" && M.gcd && glB E.sc x
        | f => decide (biNm2 f = some x) && freeB M E x) && chkE M n E a e && notStar e && chkE M n E b e' && notStar e'
      | _ => false)
    | .comp kind its tg own conds elt => (match e with
      | .ListComp el [⟨tge, it, ifs, 0⟩] scope _ => compB M E (chkE M n) (chkT M n) kind its tg own conds elt el tge it ifs scope
      | _ => false)
    | .tell t c => (match e with
      | .Call (.Name x _) [.Lambda ps body scope _] [] _ => tellB M E t x ps scope && chkE M n ⟨E.N, scope, fun _ => false, false⟩ c body
      | _ => false)
    | .dic => (match e with
      | .Dict [] [] _ => true
      | _ => false)
    | .att y i c => (match e with
      | .Attribute o f _ => slB M y i f && okBase o && chkE M n E c o
      | _ => false)
    | .meth y f c cs => (match e with
      | .Call (.Attribute o m ap) es [] cp => methB M y f m && slcB M y && okBase o && (ap.endLine == cp.line) && es.all notStar && decide (es.length < 30) && chkE M n E c o && allB (chkE M n E) cs es
      | _ => false)
    | .rngv c => (match e with
      | .Call (.Name x _) [e] [] _ => strEq x "range" && freeB M E x && chkE M n E c e && notStar e
      | _ => false)
    | .dct cs => (match e with
      | .Dict (key :: keys) vals _ => dctB (chkE M n E) cs (key :: keys) vals && decide (keys.length ≤ 14)
      | _ => false)
    | .lrg1 t a => lrgB M E (chkE M n E) t [a] e
    | .lrg2 t a b => lrgB M E (chkE M n E) t [a, b] e
    | .gin k a g => (match e with
      | .Compare l [o] [r] _ => cmEq (if k then CmpOp.In else CmpOp.NotIn) o && gdB M E g r && chkE M n E a l
      | _ => false)
    | .gix g a => (match e with
      | .Subscript r i _ => notSlice i && gdB M E g r && chkE M n E a i
      | _ => false)
    | .oddF o c f => (match e with
      | .Call (.Name x _) [e, .Name y _] [] _ => oddB M E o x && chkE M n E c e && notStar e && nameB M E f y
      | _ => false)
    | .oddL o c b => (match e with
      | .Call (.Name x _) [e, .Lambda ps body scope _] [] _ => oddB M E o x && chkE M n E c e && notStar e && (match oneArg ps with
        | some q => oddLB E q ps scope && chkE M n ⟨E.N ++ [q], scope, fun _ => false, false⟩ b body
        | none => false)
      | _ => false)
def chkT (M : Ck) : Nat → CkE → CE → Expr → Bool
  | 0, _, _, _ => false
  | n + 1, E, c, e => match e with
    | .UnaryOp .Not x _ => (match c with
      | .notv a => chkT M n E a x
      | _ => false)
    | .BoolOp .And es _ => (match c with
      | .andv cs => !cs.isEmpty && allB (chkT M n E) cs es
      | _ => false)
    | .BoolOp .Or es _ => (match c with
      | .orv cs => !cs.isEmpty && allB (chkT M n E) cs es
      | _ => false)
    | .Compare l [o] [r] _ => (match c with
      | .cmp op a b => cmEq (cmOf op) o && notSet r && chkE M n E a l && chkE M n E b r
      | .gin k a g => cmEq (if k then CmpOp.In else CmpOp.NotIn) o && gdB M E g r && chkE M n E a l
      | _ => false)
    | .Compare l [p1, p2] [m, r] _ => (match c with
      | .chain o1 o2 a b c => cmEq (cmOf o1) p1 && cmEq (cmOf o2) p2 && notSet m && notSet r && chkE M n E a l && chkE M n E b m && chkE M n E c r
      | _ => false)
    | e => plainT e && chkE M n E c e
end
def kindB (sc : Scope) : Bool := match sc.kind with
  | .function => true
  | _ => false
def nodupB : List Str → Bool
  | [] => true
  | x :: xs => !(xs.any fun y => decide (y = x)) && nodupB xs
theorem nodupB_ok : ∀ {xs : List Str}, nodupB xs = true → xs.Nodup
  | [], _ => List.nodup_nil
  | x :: xs, h => by
    obtain ⟨h1, h2⟩ := b2a (show (!(xs.any fun y => decide (y = x)) && nodupB xs) = true from h)
    refine List.nodup_cons.mpr ⟨fun hm => ?_, nodupB_ok h2⟩
    have : (xs.any fun y => decide (y = x)) = true := List.any_eq_true.mpr ⟨x, hm, by simp⟩
    rw [this] at h1
    cases h1
def scopeB (N ps : List Str) (sc : Scope) : Bool := kindB sc && !sc.isCoroutine && !sc.isGenerator && nodupB N && decide (N.take ps.length = ps) && (ps.all fun x => locB sc x) && (sc.names.all fun y => match y.2 with
  | .free => false
  | _ => true)
theorem scope_ok {N ps : List Str} {sc : Scope} (h : scopeB N ps sc = true) : FnScope N ps sc := by
  obtain ⟨h, h7⟩ := b2a h
  obtain ⟨h, h6⟩ := b2a h
  obtain ⟨h, h5⟩ := b2a h
  obtain ⟨h, h4⟩ := b2a h
  obtain ⟨h, h3⟩ := b2a h
  obtain ⟨h1, h2⟩ := b2a h
  refine ⟨?_, ?_, ?_, nodupB_ok h4, of_decide_eq_true h5, fun x hx => ?_, fun y hy e => ?_⟩
  · unfold kindB at h1
    split at h1
    · assumption
    · cases h1
  · cases q : sc.isCoroutine with
    | false => rfl
    | true => rw [q] at h2; cases h2
  · cases q : sc.isGenerator with
    | false => rfl
    | true => rw [q] at h3; cases h3
  · have := List.all_eq_true.mp h6 x hx
    unfold locB at this
    split at this
    · exact .inl (by assumption)
    · exact .inr (by assumption)
    · cases this
  · have := List.all_eq_true.mp h7 y hy
    rw [e] at this
    cases this
/-! ### defs that call what they get -/
def trsB (n f : Option Str) : List (Option D) → List Expr → Bool
  | [], [] => true
  | some d :: xs, .Constant k _ _ :: es => constB k d && trsB n f xs es
  | none :: xs, .Attribute (.Name m _) g _ :: es => decide (n = some m) && decide (f = some g) && okName m && trsB n f xs es
  | _, _ => false
def rpB (n f : Option Str) : Expr → Bool
  | .Call (.Name z _) [.Attribute (.Name m _) g _] [] _ => strEq z "repr" && decide (n = some m) && decide (f = some g) && okName m
  | _ => false
def trB (rp : Bool) (n f : Option Str) : TR → Expr → Bool
  | .d x, .Constant k _ _ => constB k x
  | .tup xs, .Tuple es _ _ => decide (xs.length ≤ 1000) && trsB n f xs es
  | .tupR x, .Tuple [.Constant k _ _, e] _ _ => rp && constB k x && rpB n f e
  | .catR s, .BinOp (.Constant (.str t) _ _) .Add e _ => rp && decide (s = t) && rpB n f e
  | _, _ => false
def hdB (M : Ck) (sc : Scope) (nn : Option Str) (h : Nat × TR) : ExceptHandler → Bool
  | .ExceptHandler (some (.Name e _)) nm [.Return (some r) _] _ => atB M.clm h.1 e && glB sc e && okName e && (decide (nm = none) || decide (nm = nn)) && trB (glB sc "repr" && decide (("repr" : Str) ∈ M.free)) nm (M.attr h.1) h.2 r
  | _ => false
def actB (a : Str) : Expr → Bool
  | .Call (.Name b _) [] [] _ => strEq a b
  | _ => false
def hdNm : List ExceptHandler → Option Str
  | [] => none
  | .ExceptHandler _ (some n) _ _ :: _ => some n
  | _ :: r => hdNm r
def nnB (sc : Scope) : Option Str → Bool
  | none => true
  | some n => localB sc n
/-- try: a() / except X: return c / except X as n: return (.., n.f), then return d -/
def tlB (M : Ck) (tl : Tl) (st : Stmt) : Bool := match (defArgs st).args.map (·.arg), defBody st with
  | [a], [.Try [.Expr e _] (hd :: hds) [] [] _, .Return (some r) _] => tl.told.isNone && scopeB (a :: (hdNm (hd :: hds)).toList) [a] (defScope st) && okName a && actB a e && nnB (defScope st) (hdNm (hd :: hds)) && allB (hdB M (defScope st) (hdNm (hd :: hds))) tl.hs (hd :: hds) && trB false none none tl.fin r
  | [a], [.Try [.Return (some (.Tuple [.Constant k _ _, e] _ _)) _] (hd :: hds) [] [] _] => (match tl.told with
    | some x => constB k x
    | none => false) && scopeB (a :: (hdNm (hd :: hds)).toList) [a] (defScope st) && okName a && actB a e && nnB (defScope st) (hdNm (hd :: hds)) && allB (hdB M (defScope st) (hdNm (hd :: hds))) tl.hs (hd :: hds)
  | _, _ => false
/-! ### defs that look for the first odd item -/
def vE (E : CkE) : CE → Expr → Bool
  | .var i, .Name x _ => atB E.N i x && visB E.sc x && okName x
  | _, _ => false
def odB (M : Ck) (st : Stmt) : Bool := match (defArgs st).args.map (·.arg), defBody st with
  | [r, f], [.For (.Tuple [.Name a p1, .Name o p2] tk tp) it [.If (.UnaryOp .Not (.Call (.Name f' _) [.Name o' _] [] _) _) [.Return (some (.Name a' _)) _] [] _] [] _, .Return (some (.Constant .none _ _)) _] =>
    scopeB [r, f, a, o] [r, f] (defScope st) && itB M ⟨[r, f, a, o], defScope st, fun _ => true, false⟩ (vE ⟨[r, f, a, o], defScope st, fun _ => true, false⟩) (.Tuple [.Name a p1, .Name o p2] tk tp) 3 [.var 0] it &&
      chkG ⟨[r, f, a, o], defScope st, fun _ => true, false⟩ (.tup [.nm 2, .nm 3]) (.Tuple [.Name a p1, .Name o p2] tk tp) && decide (f' = f) && decide (o' = o) && decide (a' = a) && visB (defScope st) f && visB (defScope st) o && visB (defScope st) a && okName f && okName o && okName a
  | _, _ => false
def defn (x : Str) : He.Defn := (x, none)
/-! ### a context that fits -/
structure ClsOk (K : PySem.W.Frag) (mg : Str → Option Value) (x : Str) : Prop where
  at_ : mg x = some (.ref (He.ga K x))
  exc : PySem.W.excIn K (He.ga K x) He.veBase "ValueError.__new__" = true
  kp : PySem.W.keepIn K (.ref (He.ga K x)) = true
  sb : PySem.W.subIn K (.ref (He.ga K x)) (.type "BaseException") = some true
  ty : PySem.W.typeIn K (.ref (He.ga K x)) = some (.type "type")
/-- C(e), an exception that keeps f -/
def tMkEx (C : Addr) (f : Str) (ta : TA) : L2.St → Hp → XK → Prop := fun σ H Q => ta σ H fun vs H1 => ∃ v, vs = [v] ∧ ∀ d, H1 d = none → Q (.ref C) (some d) (upd H1 d (.xd [(f, v)]))
structure ClsA (P : Program) (K : PySem.W.Frag) (mg : Str → Option Value) (x f : Str) : Prop where
  at_ : mg x = some (.ref (He.ga K x))
  xf : XfC K (He.ga K x)
  no : PySem.W.findIn K (.ref (He.ga K x)) f = some none
  made : ∀ (X : Cx) (ta : TA) (e : Expr) (p pos : Pos) (k : Nat), X.prog = P → X.K = K → X.mg = mg → Room k X.A → L2.Gl X x → (x == ("__debug__" : Str)) = false → PA X [e] ta → notStar e = true → PMk X (.Call (.Name x p) [e] [] pos) (tMkEx (He.ga K x) f ta)
def ClsX (P : Program) (K : PySem.W.Frag) (mg : Str → Option Value) (x : Str) : Option Str → Prop
  | none => ClsOk K mg x
  | some f => ClsA P K mg x f
theorem ClsX.at_ {P : Program} {K : PySem.W.Frag} {mg : Str → Option Value} {x : Str} {o : Option Str} (h : ClsX P K mg x o) : mg x = some (.ref (He.ga K x)) := by
  cases o with
  | none => exact ClsOk.at_ h
  | some f => exact ClsA.at_ h
/-- a class with slots -/
structure SlcOk (K : PySem.W.Frag) (mg : Str → Option Value) (y : Str) (fs : List Str) : Prop where
  at_ : mg y = some (.ref (He.ga K y))
  sl : SlC K y
  no : ∀ n ∈ ["NoneType", "bool", "int", "str", "tuple", "list", "dict"], PySem.W.kitOne K (.type n) (.ref (He.ga K y)) = some false
  slot : ∀ (i : Nat) (f : Str), fs[i]? = some f → ∃ p, SlX.Slot1 K (He.ga K y) f p i
def ParN (x : Str) (st : Stmt) : Prop := ∀ (kV doc pm : Value) (an : Option Addr) (cdv ct : Value) (us : List Value), us.length = ((defArgs st).args.map (·.arg)).length → bindArgs (PySem.W.fnOf x x (defArgs st) (defBody st) (defScope st) .none kV doc pm an cdv ct) ⟨us, []⟩ = pure (((defArgs st).args.map (·.arg)).zip us)
def ParB (x : Str) (st : Stmt) : Prop := ∀ (kV doc pm : Value) (an : Option Addr) (cdv ct u : Value), ∃ a, (defArgs st).args.map (·.arg) = [a] ∧ bindArgs (PySem.W.fnOf x x (defArgs st) (defBody st) (defScope st) .none kV doc pm an cdv ct) ⟨[u], []⟩ = pure [(a, u)]
/-- what a program's names stand for -/
structure Sta (M : Ck) (Gm : Gx) (xc : Nat → Option XCls) (k : Nat) (P : Program) (w : World) (K : PySem.W.Frag) (mg : Str → Option Value) (base : Heap) : Prop where
  fns : ∀ (f : Nat) (x : Str), M.fnm[f]? = some x → ∃ a, mg x = some (.ref a) ∧ PySem.W.keepIn K (.ref a) = true ∧ CalC P w K mg base xc k a (Gm.fn f)
  gcs : ∀ (g : Nat) (x : Str) (d : D), M.gcn[g]? = some x → Gm.gc g = some d → ∃ v u, mg x = some u ∧ RelV v u ∧ ∀ F, Rp K F v d
  free : ∀ x ∈ M.free, mg x = none
  gcd : M.gcd = true → mg "gcd" = some (.builtin "math.gcd")
  cls : ∀ (c : Nat) (x : Str), M.clm[c]? = some x → ClsX P K mg x (M.attr c) ∧ xc c = some ⟨.ref (He.ga K x), M.attr c⟩
  xcs : ∀ (c : Nat) (y : XCls), xc c = some y → ∃ x, M.clm[c]? = some x
  sub : ∀ (c h : Nat) (x y : Str), M.clm[c]? = some x → M.clm[h]? = some y → PySem.W.exmOne K (.ref (He.ga K x)) (.ref (He.ga K y)) = some (Gm.sub c h)
  tls : ∀ (t : Nat) (x : Str) (tl : Tl), M.tlm[t]? = some x → Gm.tl t = some tl → (∃ j, k = j + 2) ∧ ∃ a fd st, mg x = some (.ref a) ∧ FunD K x x (defArgs st) (defBody st) (defScope st) [] [] a fd ∧ ParB x st ∧ tlB M tl st = true
  fn2 : ∀ (j : Nat), k = j + 2 → ∀ (f : Nat) (x : Str), M.fnm[f]? = some x → ∃ a, mg x = some (.ref a) ∧ PySem.W.keepIn K (.ref a) = true ∧ CalC P w K mg base xc j a (Gm.fn2 f)
  mkr : ∀ x ∈ M.mkr, LamX.TabB base mg (He.cT K (defn x)).1 (He.cT K (defn x)).2 ∧ ((He.cT K (defn x)).2, x ++ (".<locals>." : Str) ++ ("<lambda>" : Str)) ∈ tabT K
  tnd : ∀ p ∈ tabT K, ∀ q ∈ tabT K, p.1 = q.1 → p.2 = q.2
  slc : ∀ p ∈ M.slc, SlcOk K mg p.1 p.2
  mts : ∀ (j : Nat) (y m : Str), M.mtm[j]? = some (y, m) → ∃ g, Meth K (He.ga K y) m g ∧ CalC P w K mg base xc k g (Gm.fn (M.fnm.length + j))
  mts2 : ∀ (i : Nat), k = i + 2 → ∀ (j : Nat) (y m : Str), M.mtm[j]? = some (y, m) → ∃ g, Meth K (He.ga K y) m g ∧ CalC P w K mg base xc i g (Gm.fn2 (M.fnm.length + j))
  obs : ∀ (c : Nat) (y : Str), M.obm[c]? = some y → ∀ (z : Str) (Fo : List B → Store → R (List (Bool × D))), Gm.ob c = some (z, Fo) → z = y ∧ ∃ a, mg y = some (.ref a) ∧ PySem.W.keepIn K (.ref a) = true ∧ NewC P w K mg base xc k a y Fo
  sat : ∀ (c h : Nat) (x y f : Str), M.clm[c]? = some x → M.clm[h]? = some y → Gm.sub c h = true → M.attr h = some f → M.attr c = some f
  od2 : Gm.od = true → ∃ j, k = j + 2
  gds : ∀ (g : Nat) (x : Str), M.gdn[g]? = some x → ∃ a, mg x = some (.ref a) ∧ (∃ es n, KDict K w a es n) ∧ ∀ ks vs, Gm.gd g = some (ks, vs) → GdOk K w a ks vs
  odd : ∀ (o : Nat) (x : Str), M.odm[o]? = some x → ∃ a fd st, mg x = some (.ref a) ∧ FunD K x x (defArgs st) (defBody st) (defScope st) [] [] a fd ∧ ParN x st ∧ odB M st = true
structure Cg (M : Ck) (Gm : Gx) (xc : Nat → Option XCls) (k : Nat) (E : CkE) (X : Cx) (W : WX) : Prop where
  N : X.N = E.N
  nd : X.N.Nodup
  sc : X.env.scope = E.sc
  kind : E.sc.kind = .function
  calm : X.calm = true
  room : Room k X.A
  gd : X.A.guards = some []
  tk : Takes X W
  fn : ∀ x, E.fn x = true → X.fn x = true
  st : Sta M Gm xc k X.prog X.w X.K X.mg X.base
  lamc : E.lam = true → ∃ c P, X.env.code = .ref c ∧ LamX.TabB X.base X.mg c P ∧ (P, X.env.qual ++ ("<lambda>" : Str)) ∈ tabT X.K
section
variable {M : Ck} {G : Gx} {xc : Nat → Option XCls} {k : Nat} {E : CkE} {X : Cx} {W : WX}
theorem Cg.vis (g : Cg M G xc k E X W) {x : Str} (h : visB E.sc x = true) : Vis X.env.scope x := by
  rw [g.sc]
  unfold visB at h
  split at h
  · exact .inl (by assumption)
  · exact .inr (.inl (by assumption))
  · exact .inr (.inr (by assumption))
  · cases h
theorem Cg.loc (g : Cg M G xc k E X W) {x : Str} (h : locB E.sc x = true) : Loc X.env.scope x := by
  rw [g.sc]
  unfold locB at h
  split at h
  · exact .inl (by assumption)
  · exact .inr (by assumption)
  · cases h
theorem localB_ok {sc : Scope} {x : Str} (h : localB sc x = true) : sc.names.lookup x = some .local := by
  unfold localB at h
  split at h
  · assumption
  · cases h
theorem Cg.hf (g : Cg M G xc k E X W) {x : Str} (h : (E.fn x || localB E.sc x) = true) : X.fn x = true ∨ X.env.scope.names.lookup x = some .local := by
  rcases Bool.or_eq_true_iff.mp h with h | h
  · exact .inl (g.fn x h)
  · rw [g.sc]; exact .inr (localB_ok h)
theorem Cg.gl (g : Cg M G xc k E X W) {x : Str} (h : glB E.sc x = true) : L2.Gl X x := by
  unfold glB at h
  split at h
  · rename_i e
    show X.env.scope.names.lookup x = _
    rw [g.sc]; exact e
  · cases h
theorem Cg.ix (g : Cg M G xc k E X W) {i : Nat} {x : Str} (h : atB E.N i x = true) : X.N[i]? = some x := by
  rw [g.N]; exact of_decide_eq_true h
theorem okName_ok {x : Str} (h : okName x = true) : (x == ("__debug__" : Str)) = false ∧ (x == ("__classdict__" : Str)) = false := by
  obtain ⟨h1, h2⟩ := b2a h
  exact ⟨by simpa using h1, by simpa using h2⟩
theorem Cg.freeN (g : Cg M G xc k E X W) {x : Str} (h : freeB M E x = true) : L2.Gl X x ∧ X.mg x = none := by
  obtain ⟨h1, h2⟩ := b2a h
  exact ⟨g.gl h1, g.st.free x (of_decide_eq_true h2)⟩
theorem Cg.blk (g : Cg M G xc k E X W) {scope : Scope} (hk : scope.kind = .function) (s : Shared) (H : Hp) (C : Addr) (cl : List (Str × Addr)) (fp : List Addr) : Cg M G xc k (E.blk scope) (X.blk s H scope (compEnvC scope cl C X.env) fp) WF0 where
  N := g.N
  nd := g.nd
  sc := by
    show relS scope X.env.scope = relS scope E.sc
    rw [g.sc]
  kind := hk
  calm := g.calm
  room := g.room
  gd := g.gd
  tk := fun u s' ⟨a, B, sI, pins, σ, H, cls, d, _, _, _, _, _, _, _, _, z⟩ => z.elim
  fn := fun x h => by
    show (scope.names.lookup x == some .cell) = true
    have h : (match scope.names.lookup x with
      | some .cell => true
      | _ => false) = true := h
    split at h
    · rename_i e
      rw [e]
      rfl
    · cases h
  st := g.st
  lamc := fun h => by cases h
theorem opEq_ok {a b : Operator} (h : opEq a b = true) : a = b := by
  cases a <;> cases b <;> first | rfl | cases h
theorem cmEq_ok {a b : CmpOp} (h : cmEq a b = true) : a = b := by
  cases a <;> cases b <;> first | rfl | cases h
theorem notSet_ok {op : CmpOp} {e : Expr} (h : notSet e = true) : behindInMarks op e = false := by
  cases e <;> first | rfl | cases h
theorem constB_ok {c : Const} {d : D} (h : constB c d = true) : constD c = some d := by
  unfold constB at h
  split at h
  · rfl
  · rw [beq_iff_eq.mp h]; rfl
  · rw [of_decide_eq_true h]; rfl
  · rw [of_decide_eq_true h]; rfl
  · cases h
theorem notSet_fold {e : Expr} {env : PySem.Env} (h : notSet e = true) : ∀ x, foldedSetIterable e env x = pure x := by
  intro x
  cases e <;> first | rfl | cases h
/-! ### targets -/
theorem assignEach_map {env : PySem.Env} {e : Expr} {es : List Expr} (h : notStar e = true) : assignEach (e :: es) env = (false, assign e env) :: assignEach es env := by
  cases e <;> first | rfl | cases h
mutual
theorem chkG_ok (g : Cg M G xc k E X W) : ∀ (t : Tg) (e : Expr), chkG E t e = true → PG X e (gOf X.K t)
  | .nm i, e, h => by
    cases e with
    | Name x p =>
      rw [chkG] at h
      obtain ⟨h, h3⟩ := b2a h
      obtain ⟨h1, h2⟩ := b2a h
      rw [gOf]
      exact pg_name g.nd (g.ix h1) (g.loc h2) (g.hf h3)
    | _ => simp [chkG] at h
  | .tup ts, e, h => by
    cases e with
    | Tuple es k p =>
      rw [chkG] at h
      obtain ⟨h1, h2, h3⟩ := chkGs_ok g ts es h
      rw [gOf]
      exact pg_tup g.calm h1 h2 h3
    | _ => simp [chkG] at h
theorem chkGs_ok (g : Cg M G xc k E X W) : ∀ (ts : List Tg) (es : List Expr), chkGs E ts es = true → PGs X es (gsOf X.K ts) ∧ (assignEach es X.env).length = ts.length ∧ (assignEach es X.env).findIdx? (·.1) = none
  | [], es, h => by
    cases es with
    | nil => rw [gsOf]; exact ⟨pgs_nil, rfl, rfl⟩
    | cons _ _ => simp [chkGs] at h
  | t :: ts, es, h => by
    cases es with
    | nil => simp [chkGs] at h
    | cons e es =>
      rw [chkGs] at h
      obtain ⟨h, h3⟩ := b2a h
      obtain ⟨h1, h2⟩ := b2a h
      obtain ⟨k1, k2, k3⟩ := chkGs_ok g ts es h3
      rw [gsOf]
      refine ⟨pgs_cons (chkG_ok g t e h2) k1 (by rw [assignEach_map h1]; rfl), ?_, ?_⟩
      · rw [assignEach_map h1, List.length_cons, List.length_cons, k2]
      · rw [assignEach_map h1, List.findIdx?_cons, k3]
        rfl
end
end
end Zw
set_option Elab.async false
set_option linter.all false
set_option maxRecDepth 100000
set_option maxHeartbeats 2000000
/-! ZwT: several except clauses, some with a name; small results. -/
namespace Zw
open PySem PySem.Spec PyProof.Rows L2
abbrev Cl := Value × Bool × (Addr → Value → Option Addr → TS)
abbrev retE (rt : VK) : Ends := { nx := fun _ _ => False, rt := rt }
/-- what the clauses wish of an exception, one after the other; slot i is the name's; each clause returns -/
def wManyN (K : PySem.W.Frag) (Wout : WX) (rt : VK) (i : Nat) : List Cl → WX
  | [] => Wout
  | (c, nm, ts) :: r => fun cls d σ H => ∃ b, PySem.W.exmOne K cls c = some b ∧ (b = true → ∀ a, H a = none → ∀ σ2 : L2.St, (nm = true → σ2[i]? = some (some (.ref a))) → ts a cls d (retE rt) σ2 H) ∧ (b = false → wManyN K Wout rt i r cls d σ H)
inductive HdsN (X : Cx) (i : Nat) : List ExceptHandler → List Cl → Prop
  | nil : HdsN X i [] []
  | cons {x : Str} {c : Value} {nm : Option Str} {ts : Addr → Value → Option Addr → TS} {b₀ : Stmt} {suite : List Stmt} {np pos' : Pos} {hds : List ExceptHandler} {l : List Cl} (hc : Names X x c)
      (hn : ∀ n, nm = some n → X.N[i]? = some n ∧ X.env.kindOf n = some .local)
      (hsu : ∀ (a : Addr) (oe : Obj) (cls : Value) (d : Option Addr) (pn : List (Addr × Obj)), Zc cls d oe → (∃ vs, oe.data = .fields vs) → PSs (X.suite a ((a, oe) :: pn)) (b₀ :: suite) (ts a cls d)) (r : HdsN X i hds l) :
      HdsN X i (.ExceptHandler (some (.Name x np)) nm (b₀ :: suite) pos' :: hds) ((c, nm.isSome, ts) :: l)
section
variable {X : Cx} {body : List Stmt} {h₀ : ExceptHandler} {hds : List ExceptHandler} {l : List Cl} {pos : Pos} {tb : WX → TS} {Wout : WX} {i : Nat}
/-- the clauses, looked at one after the other, the exception on the ground -/
theorem clauses_ok {pins : List (Addr × Obj)} {σ' : L2.St} {H' : Hp} {De : Ends} {sI : Shared} {s' : Shared} {h3 B : Heap} {a : Addr} {cls : Value} {d : Option Addr} {oe3 : Obj} (hs : X.stack = X.env :: X.outer) (hf : X.env.frame = some X.env.locals) (hN : X.N.Nodup) (tk : Takes X Wout)
    (J : Inv X pins σ' H' sI) (nb : ∀ b o, sI.heap.get? b = some o → b ∉ frs X.stack → B.get? b = some o) (up : sI.heap.UpToSlots h3) (fl3 : HandSPX.FlyingZ B (X.env :: X.outer) a (Zc cls d) h3) (os : s'.os = sI.os) (ag : AllBare s'.gens) (na : H' a = none)
    (J3 : Inv X pins σ' H' { s' with heap := h3 }) (he3 : h3.get? a = some oe3) (hz3 : Zc cls d oe3) (nL : a ≠ X.env.locals) (nF : a ∉ X.fs) (S3 : Inv (X.suite a ((a, oe3) :: (X.pn ++ pins))) [] σ' H' { s' with heap := h3 }) :
    ∀ {hds' : List ExceptHandler} {l' : List Cl}, HdsN X i hds' l' → wManyN X.K Wout De.rt i l' cls d σ' H' → wpAny (model X.prog X.w) X.A (handleBy (.ref a) X.env hds') (SP X pins De) X.xe { s' with heap := h3 } := by
  have ok := J.ok
  intro hds' l' hk
  induction hk with
  | nil =>
    intro w
    refine wpAny_handleBy_nil ?_
    obtain ⟨k1, k2, k3, oe, vs, T, oT, ts', he, hz, hd, h1, hr⟩ := id fl3
    unfold PySem.passOn
    refine wpAny_bind (wpAny_field he hd h1 ?_)
    rw [if_neg (show ¬ ((Value.ref T == Value.none) = true) from by simp)]
    have fin : wpAny (model X.prog X.w) X.A (setFlight (.ref a) X.env.frame) (fun _ s4 => wpAny (model X.prog X.w) X.A (throw (.ref a) : Sem Flow) (SP X pins De) X.xe s4) X.xe { s' with heap := h3 } := by
      rw [hf]
      refine HandSPX.setFlight_upZ fl3 fun h4 hh4 up4 => wpAny_throw (tk _ _ ?_)
      exact ⟨a, B, sI, pins, σ', H', cls, d, rfl, J, nb, up.trans up4, .inr (.inr (by rw [hs]; exact hh4)), na, os, ag, w⟩
    first
      | exact wpAny_bind (wpAny_pure (wpAny_bind fin))
      | exact wpAny_bind fin
  | @cons x c nm ts b₀ suite np pos' hds2 l2 hc hn hsu r ih =>
    intro w
    obtain ⟨b, hb1, hyes, hno⟩ := w
    refine wpAny_handleBy_cons (codeAny_handlers_test ?_) (by intro q; cases q)
    have LT : PySem.W.Looks (model X.prog X.w) h3 (typeOf (.ref a)) cls := fun A Q E s k q => wpAny_typeOf_ref (k _ _ he3) (by rw [hz3.1]; exact q)
    have LM := PySem.W.exm_one (M := model X.prog X.w) (J3.kIn) LT hb1
    have test : ∀ {Q : Value → Shared → Prop} {E : Value → Shared → Prop}, Q c { s' with heap := h3 } → wpAny (model X.prog X.w) (X.A.mark (some (.ref a))) (eval (.Name x np) X.env) Q E { s' with heap := h3 } := fun {Q E} q => by
      obtain ⟨hg, hdbg, hm | ⟨hm, hv, hnn⟩⟩ := hc
      · exact ld_glob (X := X.suite a ((a, oe3) :: (X.pn ++ pins))) S3 hg hm q hdbg
      · exact ld_blt (X := X.suite a ((a, oe3) :: (X.pn ++ pins))) S3 hg hm hv q hnn hdbg
    refine test (LM.here ?_)
    cases b with
    | false =>
      show wpAny _ X.A (handleBy (.ref a) X.env hds2) _ _ _
      exact ih (hno rfl)
    | true =>
      cases nm with
      | none =>
        refine codeAny_handlers_suite ?_
        refine HandSPX.lands_againZ fl3 fun h4 fl4 up4 => ?_
        have J4 : Inv X pins σ' H' { s' with heap := h4 } := J.landed nb fl4.1 (up.trans up4) os ag
        obtain ⟨oe4, vs4, he4, hz4, hd4⟩ := fl4.there
        have S4 := J4.suite he4 hd4 na nL nF
        refine wpAny_mono ((hsu a oe4 cls d (X.pn ++ pins) hz4 ⟨_, hd4⟩).run [] _ _ H' _ S4 (hyes rfl a na σ' (fun z => by cases z))) (fun f s6 hsp => ?_) (fun _ _ z => False.elim z)
        cases f with
        | next =>
          obtain ⟨σ6, H6, S6, q6⟩ := hsp
          exact q6.elim
        | brk =>
          obtain ⟨σ6, H6, S6, q6⟩ := hsp
          exact (show False from q6).elim
        | cont =>
          obtain ⟨σ6, H6, S6, q6⟩ := hsp
          exact (show False from q6).elim
        | ret u =>
          obtain ⟨v6, σ6, H6, S6, r6, q6⟩ := hsp
          exact ⟨_, _, _, S6.unsuite ok, r6, q6⟩
      | some n =>
        obtain ⟨hi, hln⟩ := hn n rfl
        have hloc : Loc X.env.scope n := .inl hln
        refine codeAny_handlers_suite_as ?_
        refine HandSPX.lands_againZ fl3 fun h4 fl4 up4 => ?_
        have J4 : Inv X pins σ' H' { s' with heap := h4 } := J.landed nb fl4.1 (up.trans up4) os ag
        obtain ⟨oe4, vs4, he4, hz4, hd4⟩ := fl4.there
        have S4 := J4.suite he4 hd4 na nL nF
        have hlen : i < σ'.length := by
          have h1 := J4.len
          have h2 := (List.getElem?_eq_some_iff.mp hi).1
          omega
        refine store_ok (X := X.suite a ((a, oe4) :: (X.pn ++ pins))) (v := .ref a) S4 hN hi hloc rfl (fun s5 S5 => ?_) (.inr hln)
        refine wpAny_mono ((hsu a oe4 cls d (X.pn ++ pins) hz4 ⟨_, hd4⟩).run [] s5 _ H' _ S5 (hyes rfl a na (σ'.set i (some (.ref a))) (fun _ => List.getElem?_set_self hlen))) (fun f s6 hsp => ?_) (fun _ _ z => False.elim z)
        have end_ : ∀ {σ6 : L2.St} {H6 : Hp} {Q : Shared → Prop}, Inv (X.suite a ((a, oe4) :: (X.pn ++ pins))) [] σ6 H6 s6 → (∀ s7, Inv X pins (σ6.set i none) H6 s7 → Q s7) →
            wpAny (model X.prog X.w) X.A (do bindName X.env n .none; unbindBehindTheSuite X.env n pos') (fun _ s7 => Q s7) X.xe s6 := fun {σ6 H6 Q} S6 hq => gone_ok (S6.unsuite ok) hN hi hln hq
        cases f with
        | next =>
          obtain ⟨σ6, H6, S6, q6⟩ := hsp
          exact q6.elim
        | brk =>
          obtain ⟨σ6, H6, S6, q6⟩ := hsp
          exact (show False from q6).elim
        | cont =>
          obtain ⟨σ6, H6, S6, q6⟩ := hsp
          exact (show False from q6).elim
        | ret u =>
          obtain ⟨v6, σ6, H6, S6, r6, q6⟩ := hsp
          exact end_ S6 fun s7 J7 => ⟨_, _, _, J7, r6, q6⟩
theorem s_tryN (hs : X.stack = X.env :: X.outer) (hf : X.env.frame = some X.env.locals) (hN : X.N.Nodup) (tk : Takes X Wout)
    (hb : ∀ (W : WX) (pn : List (Addr × Obj)) (xe : Value → Shared → Prop), Takes (X.tr pn xe) W → PassesOwn (model X.prog X.w) X.A X.env xe → PSs (X.tr pn xe) body (tb W))
    (hh : HdsN X i (h₀ :: hds) l) : PS X (.Try body (h₀ :: hds) [] [] pos) (fun De σ H => tb (wManyN X.K Wout De.rt i l) De σ H) := by
  refine ⟨fun pins s σ H De I h => ?_⟩
  have ok := I.ok
  have hfr : X.A.frames = some (X.env :: X.outer) := by rw [ok.frames, hs]
  refine wpAny_Try_except ?_
  have run := (hb (wManyN X.K Wout De.rt i l) (X.pn ++ pins) (fun e s₁ => wpAny (model X.prog X.w) X.A (noteFrame e X.env) (fun _ s₂ => wpAny (model X.prog X.w) X.A (setFlight e none) (fun _ s₃ =>
    wpAny (model X.prog X.w) X.A (handleBy e X.env (h₀ :: hds)) (SP X pins De) X.xe s₃) X.xe s₂) X.xe s₁) (fun u s' xx => ?_) PassesOwn.looking).run [] s σ H De (I.toTry _) h
  · refine wpAny_mono run (fun f s1 hsp => ?_) fun e s1 he => he
    cases f with
    | next =>
      obtain ⟨σ', H', J', q⟩ := hsp
      exact wpAny_execs_nil ⟨σ', H', J'.ofTry ok, q⟩
    | brk =>
      obtain ⟨σ', H', J', q⟩ := hsp
      exact ⟨σ', H', J'.ofTry ok, q⟩
    | cont =>
      obtain ⟨σ', H', J', q⟩ := hsp
      exact ⟨σ', H', J'.ofTry ok, q⟩
    | ret u =>
      obtain ⟨v, σ', H', J', r, q⟩ := hsp
      exact ⟨v, σ', H', J'.ofTry ok, r, q⟩
  · obtain ⟨a, B, sI, pins', σ', H', cls, d, rfl, J', nb, up, sky, na, os, ag, w⟩ := xx
    have J : Inv X pins σ' H' sI := J'.ofTry ok
    have sky' : Sky B (X.env :: X.outer) a (Zc cls d) X.env.locals s'.heap := by rw [← hs]; exact sky
    show wpAny (model X.prog X.w) X.A (noteFrame (.ref a) X.env) _ _ _
    refine Sky.land Zc.steady hfr hf sky' fun h3 fl3 up3 => ?_
    have J3 : Inv X pins σ' H' { s' with heap := h3 } := J.landed nb fl3.1 (up.trans up3) os ag
    obtain ⟨oe3, vs3, he3, hz3, hd3⟩ := fl3.there
    have nfr : a ∉ frs (X.env :: X.outer) := fun hm => by
      obtain ⟨_, o', e', hnf⟩ := fl3.2.2.1.mem hm
      rw [he3] at e'
      cases e'
      exact hnf _ hd3
    have nL : a ≠ X.env.locals := fun z => nfr (List.mem_filterMap.mpr ⟨X.env, List.mem_cons_self, by rw [hf, z]⟩)
    have nF : a ∉ X.fs := fun hm => by
      obtain ⟨e, he, q⟩ := List.mem_filterMap.mp hm
      exact nfr (List.mem_filterMap.mpr ⟨e, List.mem_cons_of_mem _ he, q⟩)
    exact clauses_ok hs hf hN tk J nb (up.trans up3) fl3 os ag na J3 he3 hz3 nL nF (J3.suite he3 hd3 na nL nF) hh w
end
/-! ### small results -/
def cv : D → V
  | .bl b => .bl b
  | .int i => .int i
  | .str s => .str s
  | _ => .non
theorem cv_rp {K : PySem.W.Frag} {F : Hp} {d : D} (h : d.flat = true) : Rp K F (cv d) d := by
  cases d with
  | non => exact .non
  | bl b => exact .bl b
  | int i => exact .int i
  | str s => exact .str s
  | _ => cases h
def elV (w : V) : Option D → V
  | some d => cv d
  | none => w
theorem const_cv {k : Const} {d : D} (h : constB k d = true) : d.flat = true ∧ ∀ (X : Cx) (j : Nat) (pos : Pos), PE X (.Constant k j pos) (tC (cv d)) := by
  unfold constB at h
  split at h
  · exact ⟨rfl, fun X j pos => pe_non⟩
  · cases beq_iff_eq.mp h; exact ⟨rfl, fun X j pos => pe_bl⟩
  · cases of_decide_eq_true h; exact ⟨rfl, fun X j pos => pe_int⟩
  · cases of_decide_eq_true h; exact ⟨rfl, fun X j pos => pe_str⟩
  · cases h
section
variable {Y : Cx} {n f : Option Str} {Acc : V → L2.St → Hp → Prop}
theorem trs_ok (hacc : ∀ (m g : Str) (p1 p2 : Pos), n = some m → f = some g → okName m = true → PE Y (.Attribute (.Name m p1) g p2) (fun σ H Q => ∃ w, Acc w σ H ∧ Q w H)) (w : V) : ∀ {xs : List (Option D)} {es : List Expr}, trsB n f xs es = true →
    PA Y es (fun σ H Q => (none ∈ xs → Acc w σ H) ∧ Q (xs.map (elV w)) H) ∧ ∀ d, some d ∈ xs → d.flat = true
  | [], [], _ => ⟨PA.weak pa_nil fun σ H Q h => h.2, fun d h => by simp at h⟩
  | [], _ :: _, h => by simp [trsB] at h
  | some d :: xs, [], h => by simp [trsB] at h
  | none :: xs, [], h => by simp [trsB] at h
  | some d :: xs, e :: es, h => by
    cases e with
    | Constant k j p =>
      rw [trsB] at h
      obtain ⟨h1, h2⟩ := b2a h
      obtain ⟨f1, c1⟩ := const_cv h1
      obtain ⟨r1, r2⟩ := trs_ok hacc w h2
      refine ⟨PA.weak (pa_cons (c1 Y j p) r1 (starEach_plain rfl)) fun σ H Q hq => ⟨fun z => hq.1 (List.mem_cons_of_mem _ z), hq.2⟩, fun d2 hd => ?_⟩
      rcases List.mem_cons.mp hd with e | e
      · cases e; exact f1
      · exact r2 d2 e
    | _ => simp [trsB] at h
  | none :: xs, e :: es, h => by
    cases e with
    | Attribute o g p2 =>
      cases o with
      | Name m p =>
        rw [trsB] at h
        obtain ⟨h, h4⟩ := b2a h
        obtain ⟨h, h3⟩ := b2a h
        obtain ⟨h1, h2⟩ := b2a h
        obtain ⟨r1, r2⟩ := trs_ok hacc w h4
        refine ⟨PA.weak (pa_cons (hacc m g p p2 (of_decide_eq_true h1) (of_decide_eq_true h2) h3) r1 (starEach_plain rfl)) fun σ H Q hq => ⟨w, hq.1 List.mem_cons_self, fun z => hq.1 (List.mem_cons_of_mem _ z), hq.2⟩, fun d2 hd => ?_⟩
        rcases List.mem_cons.mp hd with e | e
        · cases e
        · exact r2 d2 e
      | _ => simp [trsB] at h
    | _ => simp [trsB] at h
theorem trs_fl : ∀ {xs : List (Option D)} {es : List Expr}, trsB n f xs es = true → ∀ d, some d ∈ xs → d.flat = true
  | [], _, _, d, h => by simp at h
  | some d :: xs, [], h, _, _ => by simp [trsB] at h
  | none :: xs, [], h, _, _ => by simp [trsB] at h
  | some d :: xs, e :: es, h, d2, hd => by
    cases e with
    | Constant k j p =>
      rw [trsB] at h
      obtain ⟨h1, h2⟩ := b2a h
      rcases List.mem_cons.mp hd with e | e
      · cases e; exact (const_cv h1).1
      · exact trs_fl h2 d2 e
    | _ => simp [trsB] at h
  | none :: xs, e :: es, h, d2, hd => by
    cases e with
    | Attribute o g p2 =>
      cases o with
      | Name m p =>
        rw [trsB] at h
        obtain ⟨h, h4⟩ := b2a h
        rcases List.mem_cons.mp hd with e | e
        · cases e
        · exact trs_fl h4 d2 e
      | _ => simp [trsB] at h
    | _ => simp [trsB] at h
/-- t is the text of w -/
def RpV (K : PySem.W.Frag) (H : Hp) (w : V) (t : Str) : Prop := ∃ d : PyData, Dp K H w d ∧ d.showable = true ∧ d.hasDict = false ∧ d.depth ≤ 64 ∧ d.shown.length ≤ sizeLine ∧ t = d.shown
def tTR (K : PySem.W.Frag) (Acc : V → L2.St → Hp → Prop) : TR → TE
  | .d x => fun σ H Q => Q (cv x) H
  | .tup xs => fun σ H Q => ∃ w, (none ∈ xs → Acc w σ H) ∧ ∀ p, H p = none → Q (.ref p) (upd H p (.tup (xs.map (elV w))))
  | .tupR x => fun σ H Q => ∃ w t, Acc w σ H ∧ RpV K H w t ∧ ∀ p, H p = none → Q (.ref p) (upd H p (.tup [cv x, .str t]))
  | .catR s => fun σ H Q => ∃ w t, Acc w σ H ∧ RpV K H w t ∧ s.length + t.length ≤ sizeLine ∧ Q (.str (s ++ t)) H
def TR.fl : TR → Prop
  | .d x => x.flat = true
  | .tup xs => ∀ d, some d ∈ xs → d.flat = true
  | .tupR x => x.flat = true
  | .catR _ => True
theorem tr_fl {rp : Bool} {tr : TR} {r : Expr} (h : trB rp n f tr r = true) : tr.fl := by
  unfold trB at h
  split at h
  · exact (const_cv h).1
  · exact trs_fl (b2a h).2
  · obtain ⟨h, _⟩ := b2a h
    exact (const_cv (b2a h).2).1
  · trivial
  · cases h
theorem rp_ok (hacc : ∀ (m g : Str) (p1 p2 : Pos), n = some m → f = some g → okName m = true → PE Y (.Attribute (.Name m p1) g p2) (fun σ H Q => ∃ w, Acc w σ H ∧ Q w H)) (hr : CallR Y (.builtin "repr") (rRepr Y.K)) (hg : L2.Gl Y "repr") (hm : Y.mg "repr" = none) {e : Expr} (h : rpB n f e = true) :
    PE Y e (fun σ H Q => ∃ w t, Acc w σ H ∧ RpV Y.K H w t ∧ Q (.str t) H) ∧ notStar e = true := by
  unfold rpB at h
  split at h
  · obtain ⟨h, h4⟩ := b2a h
    obtain ⟨h, h3⟩ := b2a h
    obtain ⟨h1, h2⟩ := b2a h
    have e1 := of_decide_eq_true h1
    subst e1
    refine ⟨PE.weak (pe_callB hr hg hm (by decide +kernel) (pa_cons (hacc _ _ _ _ (of_decide_eq_true h2) (of_decide_eq_true h3) h4) pa_nil (starEach_plain rfl)) (he := starEach_plain rfl) (hpl := backTo_plain rfl)) fun σ H Q ⟨w, t, a, ⟨d, r1, r2, r3, r4, r5, et⟩, q⟩ => ?_, rfl⟩
    subst et
    exact ⟨w, a, w, d, rfl, r1, r2, r3, r4, r5, q⟩
  · cases h
theorem tr_ok (hacc : ∀ (m g : Str) (p1 p2 : Pos), n = some m → f = some g → okName m = true → PE Y (.Attribute (.Name m p1) g p2) (fun σ H Q => ∃ w, Acc w σ H ∧ Q w H)) {rp : Bool} (hrp : rp = true → CallR Y (.builtin "repr") (rRepr Y.K) ∧ L2.Gl Y "repr" ∧ Y.mg "repr" = none) {tr : TR} {r : Expr} (h : trB rp n f tr r = true) : PE Y r (tTR Y.K Acc tr) ∧ tr.fl := by
  refine ⟨?_, tr_fl h⟩
  unfold trB at h
  split at h
  · obtain ⟨f1, c1⟩ := const_cv h
    exact c1 Y _ _
  · rename_i xs es _ _
    obtain ⟨h1, h2⟩ := b2a h
    have h1 := of_decide_eq_true h1
    refine ⟨fun pins s σ H Q I ⟨w, q1, q2⟩ => ?_⟩
    exact (pe_tup (trs_ok hacc w h2).1).run pins s σ H Q I ⟨q1, by rw [List.length_map, ← line_eq]; unfold line; omega, q2⟩
  · obtain ⟨h, h3⟩ := b2a h
    obtain ⟨h1, h2⟩ := b2a h
    obtain ⟨z1, z2, z3⟩ := hrp h1
    obtain ⟨f1, c1⟩ := const_cv h2
    obtain ⟨pe, ns⟩ := rp_ok hacc z1 z2 z3 h3
    exact PE.weak (pe_tup (pa_cons (c1 Y _ _) (pa_cons pe pa_nil (starEach_plain ns)) (starEach_plain rfl))) fun σ H Q ⟨w, t, a, rv, q⟩ => ⟨w, t, a, rv, by rw [← line_eq]; exact (by decide : 2 ≤ line), q⟩
  · obtain ⟨h, h3⟩ := b2a h
    obtain ⟨h1, h2⟩ := b2a h
    have e1 := of_decide_eq_true h2
    subst e1
    obtain ⟨z1, z2, z3⟩ := hrp h1
    obtain ⟨pe, ns⟩ := rp_ok hacc z1 z2 z3 h3
    exact PE.weak (pe_op op_add_str pe_str pe) fun σ H Q ⟨w, t, a, rv, l, q⟩ => ⟨w, t, a, rv, _, t, rfl, rfl, l, q⟩
  · cases h
theorem trL_rp {K : PySem.W.Frag} {F : Hp} {w : V} {p : List D} (hw : ∀ q, p = [q] → Rp K F w q) : ∀ {xs : List (Option D)} {ds : List D}, (∀ d, some d ∈ xs → d.flat = true) → trL p xs = some ds → RpL K F (xs.map (elV w)) ds
  | [], ds, _, h => by cases h; exact .nil
  | some d :: xs, ds, hf, h => by
    rw [trL] at h
    cases e : trL p xs with
    | none => rw [e] at h; cases h
    | some es =>
      rw [e] at h
      cases h
      exact .cons (cv_rp (hf d List.mem_cons_self)) (trL_rp hw (fun d hd => hf d (List.mem_cons_of_mem _ hd)) e)
  | none :: xs, ds, hf, h => by
    match p, hw, h with
    | [], _, h => cases h
    | _ :: _ :: _, _, h => cases h
    | [q], hw, h =>
      have h : (trL [q] xs).map (q :: ·) = some ds := h
      cases e : trL [q] xs with
      | none => rw [e] at h; cases h
      | some es =>
        rw [e] at h
        cases h
        exact .cons (hw q rfl) (trL_rp hw (fun d hd => hf d (List.mem_cons_of_mem _ hd)) e)
theorem trL_one : ∀ {xs : List (Option D)} {ds p : List D}, trL p xs = some ds → none ∈ xs → ∃ q, p = [q]
  | [], ds, p, h, z => by simp at z
  | some d :: xs, ds, p, h, z => by
    rw [trL] at h
    cases e : trL p xs with
    | none => rw [e] at h; cases h
    | some es => exact trL_one e (by simpa using z)
  | none :: xs, ds, p, h, z => by
    match p, h with
    | [], h => cases h
    | _ :: _ :: _, h => cases h
    | [q], h => exact ⟨q, rfl⟩
theorem rpV_of {K : PySem.W.Frag} {F H : Hp} {μ : List Addr} {S : Store} {σ : L2.St} {p : List D} {t : Str} (rel : Rel K F μ S H) (ht : rpD p = some t) (hw : ∀ q, p = [q] → ∃ w, Acc w σ H ∧ Rp K F w q) : ∃ q w, Acc w σ H ∧ Rp K F w q ∧ RpV K H w t := by
  unfold rpD at ht
  split at ht
  · rename_i q
    by_cases ok : reprOk q = true
    · rw [if_pos ok] at ht
      cases ht
      obtain ⟨w, a, rp⟩ := hw q rfl
      unfold reprOk at ok
      simp only [Bool.and_eq_true] at ok
      exact ⟨q, w, a, rp, q.py, dp_of rel.sub rp ok.1.1.1, ok.1.1.2, noDict q, of_decide_eq_true ok.1.2, by rw [← line_eq]; exact of_decide_eq_true ok.2, rfl⟩
    · rw [if_neg ok] at ht; cases ht
  · cases ht
/-- what is given back, as a tree -/
theorem tr_rd {K : PySem.W.Frag} {F H : Hp} {μ : List Addr} {S : Store} {σ : L2.St} {tr : TR} {p : List D} {d : D} {Q : VK} (hf : tr.fl) (rel : Rel K F μ S H) (hd : tr.ev p = some d) (hw : ∀ q, p = [q] → ∃ w, Acc w σ H ∧ Rp K F w q)
    (k : ∀ F' H' v, Ext μ F H F' H' → Rel K F' μ S H' → Rp K F' v d → Q v H') : tTR K Acc tr σ H Q := by
  cases tr with
  | d x =>
    cases hd
    exact k F H _ (Ext.refl _ _ _) rel (cv_rp hf)
  | tup xs =>
    have hd : (trL p xs).map D.tup = some d := hd
    cases e : trL p xs with
    | none => rw [e] at hd; cases hd
    | some ds =>
      rw [e] at hd
      cases hd
      have fin : ∀ w, (∀ q, p = [q] → Rp K F w q) → ∀ a, H a = none → Q (.ref a) (upd H a (.tup (xs.map (elV w)))) := fun w hr a ha => by
        have rp := trL_rp hr hf e
        have x1 : Ext μ F H (upd F a (.tup (xs.map (elV w)))) (upd H a (.tup (xs.map (elV w)))) := Ext.new rel.sub ha nt_tup
        exact k _ _ _ x1 (rel.new ha nt_tup) (.tup (SqT.of upd_same) (rp.mono x1.fs))
      by_cases z : none ∈ xs
      · obtain ⟨q, rfl⟩ := trL_one e z
        obtain ⟨w, a1, a2⟩ := hw q rfl
        exact ⟨w, fun _ => a1, fin w fun q' e => by cases e; exact a2⟩
      · match p, e with
        | [q], e =>
          obtain ⟨w, a1, a2⟩ := hw q rfl
          exact ⟨w, fun z2 => absurd z2 z, fin w fun q' e => by cases e; exact a2⟩
        | [], e => exact ⟨.non, fun z2 => absurd z2 z, fin .non fun q e => by cases e⟩
        | _ :: _ :: _, e => exact ⟨.non, fun z2 => absurd z2 z, fin .non fun q e => by cases e⟩
  | tupR x =>
    obtain ⟨t, ht, ed⟩ := Option.map_eq_some_iff.mp (show (rpD p).map (fun t => D.tup [x, .str t]) = some d from hd)
    subst ed
    obtain ⟨q, w, a, rp, rv⟩ := rpV_of rel ht hw
    refine ⟨w, t, a, rv, fun c hc => ?_⟩
    have x1 : Ext μ F H (upd F c (.tup [cv x, .str t])) (upd H c (.tup [cv x, .str t])) := Ext.new rel.sub hc nt_tup
    exact k _ _ _ x1 (rel.new hc nt_tup) (.tup (SqT.of upd_same) (.cons ((cv_rp hf).mono x1.fs) (.cons (.str t) .nil)))
  | catR z =>
    obtain ⟨t, ht, ed⟩ := Option.bind_eq_some_iff.mp (show ((rpD p).bind fun t => if z.length + t.length ≤ line then some (D.str (z ++ t)) else none) = some d from hd)
    by_cases l : z.length + t.length ≤ line
    · rw [if_pos l] at ed
      cases ed
      obtain ⟨q, w, a, rp, rv⟩ := rpV_of rel ht hw
      exact ⟨w, t, a, rv, by rw [← line_eq]; exact l, k F H _ (Ext.refl _ _ _) rel (.str _)⟩
    · rw [if_neg l] at ed; cases ed
end
end Zw
set_option Elab.async false
set_option linter.all false
set_option maxRecDepth 100000
/-! Zw11: the check of expressions is sound. -/
namespace Zw
open PySem PySem.Spec PyProof.Rows L2
section
variable {M : Ck} {G : Gx} {xc : Nat → Option XCls} {k : Nat} {E : CkE} {X : Cx} {W : WX}
theorem all_L {f : CE → Expr → Bool} (hf : ∀ c e, f c e = true → PE X e (tM X.K xc W (ev G c))) : ∀ {cs : List CE} {es : List Expr}, allB f cs es = true → es.all notStar = true → PA X es (tML X.K xc W (evl G cs))
  | [], [], _, _ => l_nil
  | [], _ :: _, h, _ => absurd h Bool.false_ne_true
  | _ :: _, [], h, _ => absurd h Bool.false_ne_true
  | c :: cs, e :: es, h, hs => by
    obtain ⟨h1, h2⟩ := b2a (show (f c e && allB f cs es) = true from h)
    rw [List.all_cons] at hs
    obtain ⟨s1, s2⟩ := b2a hs
    exact l_cons (hf c e h1) (all_L hf h2 s2) s1
theorem star_D {f : CE → Expr → Bool} (hf : ∀ c e, f c e = true → PE X e (tM X.K xc W (ev G c))) : ∀ {cs : List (Bool × CE)} {es : List Expr}, starB f cs es = true → PA X es (tMD X.K xc W (evs G cs))
  | [], [], _ => d_nil
  | [], _ :: _, h => by simp [starB] at h
  | (true, c) :: cs, [], h => by simp [starB] at h
  | (false, c) :: cs, [], h => by simp [starB] at h
  | (true, c) :: cs, e :: es, h => by
    cases e with
    | Starred e p =>
      rw [starB] at h
      obtain ⟨h1, h2⟩ := b2a h
      exact d_star (hf c e h1) (star_D hf h2)
    | _ => simp [starB] at h
  | (false, c) :: cs, e :: es, h => by
    rw [starB] at h
    obtain ⟨h, h3⟩ := b2a h
    obtain ⟨h1, h2⟩ := b2a h
    exact d_cons (hf c e h2) (star_D hf h3) (starEach_plain h1)
theorem dct_D {f : CE → Expr → Bool} {pos : Pos} (hf : ∀ c e, f c e = true → PE X e (tM X.K xc W (ev G c))) : ∀ {cs : List (Bool × CE)} {keys : List (Option Expr)} {vals : List Expr}, dctB f cs keys vals = true →
    (∃ trs, PPs X pos keys vals trs ∧ Prs G X.K xc W cs trs) ∧ keys.all (·.isSome) = true ∧ keys.length = vals.length := by
  intro cs keys vals h
  induction cs, keys, vals using dctB.induct with
  | case1 => exact ⟨⟨[], pps_nil, .nil⟩, rfl, rfl⟩
  | case2 k v cs e es x xs ih =>
    obtain ⟨h, h3⟩ := b2a (show (f k e && f v x && dctB f cs es xs) = true from h)
    obtain ⟨h1, h2⟩ := b2a h
    obtain ⟨⟨trs, p1, p2⟩, q1, q2⟩ := ih h3
    exact ⟨⟨_, pps_cons (hf k e h1) (hf v x h2) p1, .cons p2⟩, by rw [List.all_cons, q1]; rfl, by simp [q2]⟩
  | case3 => simp_all [dctB]
theorem opt_O {f : CE → Expr → Bool} (hf : ∀ c e, f c e = true → PE X e (tM X.K xc W (ev G c))) {c : Option CE} {e : Option Expr} (h : optB f c e = true) : PO X e (tMO X.K xc W (evO G c)) := by
  cases c with
  | none => cases e with
    | none => exact o_none
    | some e => exact absurd h Bool.false_ne_true
  | some c => cases e with
    | none => exact absurd h Bool.false_ne_true
    | some e => exact o_some (hf c e h)
theorem and_E {f : CE → Expr → Bool} {p : Pos} (hf : ∀ c e, f c e = true → PE X e (tM X.K xc W (ev G c))) : ∀ {cs : List CE} {es : List Expr}, allB f cs es = true → cs ≠ [] → PE X (.BoolOp .And es p) (tM X.K xc W (ev G (.andv cs)))
  | [], _, _, n => absurd rfl n
  | _ :: _, [], h, _ => absurd h Bool.false_ne_true
  | [c], [e], h, _ => by
    obtain ⟨h1, _⟩ := b2a (show (f c e && allB f [] []) = true from h)
    have e1 : ev G (.andv [c]) = ev G c := by funext ρ s; rw [ev, evAnd]
    rw [e1]
    exact r_and1 (hf c e h1)
  | [c], e :: e' :: es, h, _ => by
    obtain ⟨_, h2⟩ := b2a (show (f c e && allB f [] (e' :: es)) = true from h)
    exact absurd h2 Bool.false_ne_true
  | c :: c' :: cs, [e], h, _ => by
    obtain ⟨_, h2⟩ := b2a (show (f c e && allB f (c' :: cs) []) = true from h)
    exact absurd h2 Bool.false_ne_true
  | c :: c' :: cs, e :: e' :: es, h, _ => by
    obtain ⟨h1, h2⟩ := b2a (show (f c e && allB f (c' :: cs) (e' :: es)) = true from h)
    exact r_and (hf c e h1) (and_E hf h2 (by simp))
theorem or_E {f : CE → Expr → Bool} {p : Pos} (hf : ∀ c e, f c e = true → PE X e (tM X.K xc W (ev G c))) : ∀ {cs : List CE} {es : List Expr}, allB f cs es = true → cs ≠ [] → PE X (.BoolOp .Or es p) (tM X.K xc W (ev G (.orv cs)))
  | [], _, _, n => absurd rfl n
  | _ :: _, [], h, _ => absurd h Bool.false_ne_true
  | [c], [e], h, _ => by
    obtain ⟨h1, _⟩ := b2a (show (f c e && allB f [] []) = true from h)
    have e1 : ev G (.orv [c]) = ev G c := by funext ρ s; rw [ev, evOr]
    rw [e1]
    exact r_and1 (hf c e h1)
  | [c], e :: e' :: es, h, _ => by
    obtain ⟨_, h2⟩ := b2a (show (f c e && allB f [] (e' :: es)) = true from h)
    exact absurd h2 Bool.false_ne_true
  | c :: c' :: cs, [e], h, _ => by
    obtain ⟨_, h2⟩ := b2a (show (f c e && allB f (c' :: cs) []) = true from h)
    exact absurd h2 Bool.false_ne_true
  | c :: c' :: cs, e :: e' :: es, h, _ => by
    obtain ⟨h1, h2⟩ := b2a (show (f c e && allB f (c' :: cs) (e' :: es)) = true from h)
    exact r_or (hf c e h1) (or_E hf h2 (by simp))
theorem and_T {f : CE → Expr → Bool} {p : Pos} (hf : ∀ c e, f c e = true → PT X e (tMT X.K xc W (evT G c))) : ∀ {cs : List CE} {es : List Expr}, allB f cs es = true → cs ≠ [] → PW X (.BoolOp .And es p) (tMT X.K xc W (evT G (.andv cs)))
  | [], _, _, n => absurd rfl n
  | _ :: _, [], h, _ => absurd h Bool.false_ne_true
  | [c], [e], h, _ => by
    obtain ⟨h1, _⟩ := b2a (show (f c e && allB f [] []) = true from h)
    exact t_and1 (hf c e h1)
  | [c], e :: e' :: es, h, _ => by
    obtain ⟨_, h2⟩ := b2a (show (f c e && allB f [] (e' :: es)) = true from h)
    exact absurd h2 Bool.false_ne_true
  | c :: c' :: cs, [e], h, _ => by
    obtain ⟨_, h2⟩ := b2a (show (f c e && allB f (c' :: cs) []) = true from h)
    exact absurd h2 Bool.false_ne_true
  | c :: c' :: cs, e :: e' :: es, h, _ => by
    obtain ⟨h1, h2⟩ := b2a (show (f c e && allB f (c' :: cs) (e' :: es)) = true from h)
    exact t_and (hf c e h1) (and_T hf h2 (by simp))
theorem or_T {f : CE → Expr → Bool} {p : Pos} (hf : ∀ c e, f c e = true → PT X e (tMT X.K xc W (evT G c))) : ∀ {cs : List CE} {es : List Expr}, allB f cs es = true → cs ≠ [] → PW X (.BoolOp .Or es p) (tMT X.K xc W (evT G (.orv cs)))
  | [], _, _, n => absurd rfl n
  | _ :: _, [], h, _ => absurd h Bool.false_ne_true
  | [c], [e], h, _ => by
    obtain ⟨h1, _⟩ := b2a (show (f c e && allB f [] []) = true from h)
    exact t_or1 (hf c e h1)
  | [c], e :: e' :: es, h, _ => by
    obtain ⟨_, h2⟩ := b2a (show (f c e && allB f [] (e' :: es)) = true from h)
    exact absurd h2 Bool.false_ne_true
  | c :: c' :: cs, [e], h, _ => by
    obtain ⟨_, h2⟩ := b2a (show (f c e && allB f (c' :: cs) []) = true from h)
    exact absurd h2 Bool.false_ne_true
  | c :: c' :: cs, e :: e' :: es, h, _ => by
    obtain ⟨h1, h2⟩ := b2a (show (f c e && allB f (c' :: cs) (e' :: es)) = true from h)
    exact t_or (hf c e h1) (or_T hf h2 (by simp))
theorem notEmpty {α : Type} {cs : List α} (h : (!cs.isEmpty) = true) : cs ≠ [] := by
  intro e
  rw [e] at h
  cases h
/-! ### calls -/
theorem call_ok (g : Cg M G xc k E X W) {f : CE → Expr → Bool} (hf : ∀ c e, f c e = true → PE X e (tM X.K xc W (ev G c))) {i : Nat} {cs : List CE} {x : Str} {es : List Expr} {p pos : Pos} (h : callB M E f i cs x es = true) :
    PE X (.Call (.Name x p) es [] pos) (tM X.K xc W (ev G (.call i cs))) := by
  obtain ⟨h, h5⟩ := b2a h
  obtain ⟨h, h4⟩ := b2a h
  obtain ⟨h, h3⟩ := b2a h
  obtain ⟨h1, h2⟩ := b2a h
  obtain ⟨a, e1, e2, e3⟩ := g.st.fns i x (of_decide_eq_true h1)
  have hd := (okName_ok h3).1
  cases es with
  | nil =>
    cases cs with
    | cons _ _ => exact absurd h5 Bool.false_ne_true
    | nil =>
      have e : ev G (.call i []) = fun ρ s => callS (G.fn i) [] s := by
        funext ρ s
        rw [ev, evl]
        rfl
      rw [e]
      exact pe_callM0 e3 g.room g.gd g.tk (g.gl h2) e1 e2 hd
  | cons e es =>
    have ha := all_L hf h5 h4
    rw [List.all_cons] at h4
    obtain ⟨s1, s2⟩ := b2a h4
    have ee : ev G (.call i cs) = fun ρ s => (evl G cs ρ s).bind fun bs s => callS (G.fn i) bs s := by
      funext ρ s
      rw [ev]
    rw [ee]
    exact pe_callM e3 g.room g.gd g.tk (g.gl h2) e1 e2 ha hd (starEach_plain s1) (backTo_plain s2)
theorem free_ok {x : Str} (g : Cg M G xc k E X W) {s : Str} (e : some s = some x) (h : freeB M E x = true) : L2.Gl X s ∧ X.mg s = none := by
  cases e
  exact g.freeN h
theorem b1_ok (g : Cg M G xc k E X W) {f : Bi} {c : CE} {x : Str} {e : Expr} {p pos : Pos} (hn : biNm f = some x) (hx : freeB M E x = true) (he : PE X e (tM X.K xc W (ev G c))) (hs : notStar e = true) :
    PE X (.Call (.Name x p) [e] [] pos) (tM X.K xc W (ev G (.b1 f c))) := by
  have fr := g.freeN hx
  have ha := pa_cons he pa_nil (starEach_plain (env := X.env) hs)
  cases f with
  | len => cases hn; exact r_b1 (pe_callB call_lenA fr.1 fr.2 (by decide +kernel) ha (he := starEach_plain hs) (hpl := backTo_plain rfl)) fun _ _ _ _ _ _ _ _ r hx h => hop_len r hx h
  | abs => cases hn; exact r_b1 (pe_callB call_abs fr.1 fr.2 (by decide +kernel) ha (he := starEach_plain hs) (hpl := backTo_plain rfl)) fun _ _ _ _ _ _ _ _ r hx h => hop_abs r hx h
  | int => cases hn; exact r_b1 (pe_callTy call_int1 fr.1 fr.2 (by decide +kernel) ha (he := starEach_plain hs) (hpl := backTo_plain rfl)) fun _ _ _ _ _ _ _ _ r hx h => hop_int r hx h
  | all => cases hn; exact r_b1 (pe_callB (cr_all g.calm) fr.1 fr.2 (by decide +kernel) ha (he := starEach_plain hs) (hpl := backTo_plain rfl)) fun _ _ _ _ _ _ _ _ r hx h => hop_all r hx h
  | any => cases hn; exact r_b1 (pe_callB (cr_any g.calm) fr.1 fr.2 (by decide +kernel) ha (he := starEach_plain hs) (hpl := backTo_plain rfl)) fun _ _ _ _ _ _ _ _ r hx h => hop_any r hx h
  | repr => cases hn; exact r_b1 (pe_callB (call_reprA g.room g.gd) fr.1 fr.2 (by decide +kernel) ha (he := starEach_plain hs) (hpl := backTo_plain rfl)) fun _ _ _ _ _ _ _ _ r hx h => hop_repr r hx h
  | tuple => cases hn; exact r_b1 (pe_callTy call_tuple_of fr.1 fr.2 (by decide +kernel) ha (he := starEach_plain hs) (hpl := backTo_plain rfl)) fun _ _ _ _ _ _ _ _ r hx h => hop_tuple r hx h
  | list => cases hn; exact r_b1 (pe_callTy call_list_of fr.1 fr.2 (by decide +kernel) ha (he := starEach_plain hs) (hpl := backTo_plain rfl)) fun _ _ _ _ _ _ _ _ r hx h => hop_list r hx h
  | sum => cases hn; exact r_b1 (pe_callB (cr_sum g.calm) fr.1 fr.2 (by decide +kernel) ha (he := starEach_plain hs) (hpl := backTo_plain rfl)) fun _ _ _ _ _ _ _ _ r hx h => hop_sum r hx h
  | max2 => cases hn
  | min2 => cases hn
  | gcd => cases hn
  | isi ty => cases hn
theorem b2_ok (g : Cg M G xc k E X W) {f : Bi} {c c' : CE} {x : Str} {e e' : Expr} {p pos : Pos} (hn : biNm2 f = some x) (hx : freeB M E x = true) (he : PE X e (tM X.K xc W (ev G c))) (hs : notStar e = true) (he' : PE X e' (tM X.K xc W (ev G c'))) (hs' : notStar e' = true) :
    PE X (.Call (.Name x p) [e, e'] [] pos) (tM X.K xc W (ev G (.b2 f c c'))) := by
  have fr := g.freeN hx
  have ha := pa_cons he (pa_cons he' pa_nil (starEach_plain (env := X.env) hs')) (starEach_plain (env := X.env) hs)
  have hp : (backTo pos (starEach [e'] X.env)).any (·.1) = false := backTo_plain (by simp [hs'])
  cases f with
  | max2 => cases hn; exact r_b2 (pe_callB (call_max2 g.calm) fr.1 fr.2 (by decide +kernel) ha (he := starEach_plain hs) (hpl := hp)) fun _ _ _ _ _ _ _ _ _ _ r hx hy h => hop_2I rfl r hx hy h
  | min2 => cases hn; exact r_b2 (pe_callB (call_min2 g.calm) fr.1 fr.2 (by decide +kernel) ha (he := starEach_plain hs) (hpl := hp)) fun _ _ _ _ _ _ _ _ _ _ r hx hy h => hop_2I rfl r hx hy h
  | _ => cases hn
theorem gcd_ok (g : Cg M G xc k E X W) {c c' : CE} {e e' : Expr} {p pos : Pos} (hm : X.mg "gcd" = some (.builtin "math.gcd")) (hg : L2.Gl X "gcd") (he : PE X e (tM X.K xc W (ev G c))) (hs : notStar e = true) (he' : PE X e' (tM X.K xc W (ev G c'))) (hs' : notStar e' = true) :
    PE X (.Call (.Name "gcd" p) [e, e'] [] pos) (tM X.K xc W (ev G (.b2 .gcd c c'))) :=
  r_b2 (pe_callBfun cr_gcd hg hm (pa_cons he (pa_cons he' pa_nil (starEach_plain (env := X.env) hs')) (starEach_plain (env := X.env) hs)) (he := starEach_plain hs) (hpl := backTo_plain (by simp [hs'])))
    fun _ _ _ _ _ _ _ _ _ _ r hx hy h => by
      obtain ⟨i, j, e, q⟩ := hop_2I (f := fun i j => (Int.gcd i j : Nat)) rfl r hx hy h
      exact ⟨i, j, e, q⟩
theorem isi_ok (g : Cg M G xc k E X W) {ty : Ty} {c : CE} {y : Str} {e : Expr} {p p2 pos : Pos} (hi : freeB M E "isinstance" = true) (hy : tyNm ty y = true) (hf : freeB M E y = true) (he : PE X e (tM X.K xc W (ev G c))) (hs : notStar e = true) :
    PE X (.Call (.Name "isinstance" p) [e, .Name y p2] [] pos) (tM X.K xc W (ev G (.b1 (.isi ty) c))) := by
  unfold tyNm at hy
  cases q : ty.name with
  | none => rw [q] at hy; cases hy
  | some n =>
    rw [q] at hy
    have e1 : y = Str.ofString n := of_decide_eq_true hy
    subst e1
    have fr := g.freeN hf
    refine r_isi q he (g.freeN hi).1 (g.freeN hi).2 ?_ hs
    cases ty <;> cases q <;> exact pe_bltn fr.1 fr.2 (by decide +kernel) rfl
theorem isiC_ok (g : Cg M G xc k E X W) {c : CE} {y : Str} {e : Expr} {p p2 pos : Pos} (hi : freeB M E "isinstance" = true) (hy : slcB M y = true) (hg : glB E.sc y = true) (hd : okName y = true) (he : PE X e (tM X.K xc W (ev G c))) (hs : notStar e = true) :
    PE X (.Call (.Name "isinstance" p) [e, .Name y p2] [] pos) (tM X.K xc W (ev G (.b1 (.isi (.cls y)) c))) := by
  obtain ⟨q, hq, eq⟩ := List.any_eq_true.mp hy
  have eq := of_decide_eq_true eq
  have o := g.st.slc q hq
  rw [eq] at o
  exact r_isiC o.no he (g.freeN hi).1 (g.freeN hi).2 (pe_glob (g.gl hg) o.at_ rfl (okName_ok hd).1) hs
theorem att_ok (g : Cg M G xc k E X W) {y f : Str} {i : Nat} {c : CE} {o : Expr} {pos : Pos} (h : slB M y i f = true) (hb : okBase o = true) (he : PE X o (tM X.K xc W (ev G c))) : PE X (.Attribute o f pos) (tM X.K xc W (ev G (.att y i c))) := by
  obtain ⟨q, hq, eq⟩ := List.any_eq_true.mp h
  obtain ⟨e1, e2⟩ := b2a eq
  have e1 := of_decide_eq_true e1
  have o := g.st.slc q hq
  rw [e1] at o
  obtain ⟨pd, sl⟩ := o.slot i f (of_decide_eq_true e2)
  exact r_att sl he (okBase_eq hb)
theorem meth_ok (g : Cg M G xc k E X W) {f : CE → Expr → Bool} (hf : ∀ c e, f c e = true → PE X e (tM X.K xc W (ev G c))) {y m : Str} {i : Nat} {c : CE} {cs : List CE} {o : Expr} {es : List Expr} {ap pos : Pos} (h1 : methB M y i m = true) (h2 : slcB M y = true) (h3 : okBase o = true) (h4 : (ap.endLine == pos.line) = true)
    (h5 : es.all notStar = true) (h6 : es.length < 30) (h7 : PE X o (tM X.K xc W (ev G c))) (h8 : allB f cs es = true) : PE X (.Call (.Attribute o m ap) es [] pos) (tM X.K xc W (ev G (.meth y i c cs))) := by
  obtain ⟨a1, a2⟩ := b2a h1
  have a1 := of_decide_eq_true a1
  have a2 := of_decide_eq_true a2
  obtain ⟨gf, mt, cal⟩ := g.st.mts _ y m a2
  rw [Nat.add_sub_cancel' a1] at cal
  obtain ⟨q, hq, eq⟩ := List.any_eq_true.mp h2
  have eq := of_decide_eq_true eq
  have so := g.st.slc q hq
  rw [eq] at so
  have ha := all_L hf h8 h5
  have ee : ev G (.meth y i c cs) = fun ρ s => (ev G c ρ s).bind fun b s => if isOb y b s then (evl G cs ρ s).bind fun bs s => callW (G.fn i) (b :: bs) s else .bad := by
    funext ρ s
    rw [ev]
  rw [ee]
  refine pe_methM cal mt so.sl.cls g.room g.gd g.tk h7 ha h5 h3 h4 h6 fun e0 ρ s => ?_
  subst e0
  cases cs with
  | nil => rw [evl]
  | cons _ _ => cases h8
theorem rngv_ok (g : Cg M G xc k E X W) {x : Str} {c : CE} {e : Expr} {p pos : Pos} (h1 : strEq x "range" = true) (h2 : freeB M E x = true) (he : PE X e (tM X.K xc W (ev G c))) (hs : notStar e = true) : PE X (.Call (.Name x p) [e] [] pos) (tM X.K xc W (ev G (.rngv c))) := by
  have e1 := of_decide_eq_true h1
  subst e1
  have fr := g.freeN h2
  exact r_rngv he fr.1 fr.2 hs
theorem lrg_ok (g : Cg M G xc k E X W) {f : CE → Expr → Bool} (hf : ∀ c e, f c e = true → PE X e (tM X.K xc W (ev G c))) {t : Bool} {cs : List CE} {e : Expr} (h : lrgB M E f t cs e = true) :
    match cs with
    | [a] => PE X e (tM X.K xc W (ev G (.lrg1 t a)))
    | [a, b] => PE X e (tM X.K xc W (ev G (.lrg2 t a b)))
    | _ => True := by
  unfold lrgB at h
  split at h
  · obtain ⟨h, h6⟩ := b2a h
    obtain ⟨h, h5⟩ := b2a h
    obtain ⟨h, h4⟩ := b2a h
    obtain ⟨h, h3⟩ := b2a h
    obtain ⟨h1, h2⟩ := b2a h
    have e1 := of_decide_eq_true h1
    have e3 := of_decide_eq_true h3
    subst e3
    have f2 := g.freeN h2
    have f4 := g.freeN h4
    exact r_lrg1 g.calm (hf _ _ h5) f4.1 f4.2 h6 (by rw [e1]; cases t <;> rfl) f2.1 f2.2
  · obtain ⟨h, h8⟩ := b2a h
    obtain ⟨h, h7⟩ := b2a h
    obtain ⟨h, h6⟩ := b2a h
    obtain ⟨h, h5⟩ := b2a h
    obtain ⟨h, h4⟩ := b2a h
    obtain ⟨h, h3⟩ := b2a h
    obtain ⟨h1, h2⟩ := b2a h
    have e1 := of_decide_eq_true h1
    have e3 := of_decide_eq_true h3
    subst e3
    have f2 := g.freeN h2
    have f4 := g.freeN h4
    exact r_lrg2 g.calm (hf _ _ h5) (hf _ _ h7) f4.1 f4.2 h6 h8 (by rw [e1]; cases t <;> rfl) f2.1 f2.2
  · cases h
theorem gd_ok (g : Cg M G xc k E X W) {i : Nat} {r : Expr} (h : gdB M E i r = true) : ∃ y p a, r = .Name y p ∧ L2.Gl X y ∧ (y == ("__debug__" : Str)) = false ∧ X.mg y = some (.ref a) ∧ (∃ es n, KDict X.K X.w a es n) ∧ ∀ ks vs, G.gd i = some (ks, vs) → GdOk X.K X.w a ks vs := by
  unfold gdB at h
  split at h
  · obtain ⟨h, h3⟩ := b2a h
    obtain ⟨h1, h2⟩ := b2a h
    obtain ⟨a, e1, e2, e3⟩ := g.st.gds _ _ (of_decide_eq_true h1)
    exact ⟨_, _, a, rfl, g.gl h2, (okName_ok h3).1, e1, e2, e3⟩
  · cases h
/-! ### comprehensions -/
theorem it_ok (g : Cg M G xc k E X W) {f : CE → Expr → Bool} (hf : ∀ c e, f c e = true → PE X e (tM X.K xc W (ev G c))) {kind : Nat} {its : List CE} {it tg : Expr} (h : itB M E f tg kind its it = true) :
    PI X tg it (tMI X.K xc W (wkM G kind its)) ∧ ∀ x, foldedSetIterable it X.env x = pure x := by
  unfold itB at h
  split at h
  · obtain ⟨h1, h2⟩ := b2a h
    exact ⟨i_items (hf _ _ h1), notSet_fold h2⟩
  · obtain ⟨h, h4⟩ := b2a h
    obtain ⟨h, h3⟩ := b2a h
    obtain ⟨h1, h2⟩ := b2a h
    have e := of_decide_eq_true h1
    subst e
    have fr := g.freeN h2
    exact ⟨i_range1 fr.1 fr.2 (l_cons (hf _ _ h3) l_nil h4) h4, notSet_fold rfl⟩
  · obtain ⟨h, h6⟩ := b2a h
    obtain ⟨h, h5⟩ := b2a h
    obtain ⟨h, h4⟩ := b2a h
    obtain ⟨h, h3⟩ := b2a h
    obtain ⟨h1, h2⟩ := b2a h
    have e := of_decide_eq_true h1
    subst e
    have fr := g.freeN h2
    exact ⟨i_range2 fr.1 fr.2 (l_cons (hf _ _ h3) (l_cons (hf _ _ h5) l_nil h6) h4) h4 h6, notSet_fold rfl⟩
  · obtain ⟨h, h5⟩ := b2a h
    obtain ⟨h, h4⟩ := b2a h
    obtain ⟨h, h3⟩ := b2a h
    obtain ⟨h1, h2⟩ := b2a h
    have e : _ = ("enumerate" : Str) := of_decide_eq_true h1
    subst e
    have fr := g.freeN h2
    unfold isTupE at h5
    split at h5
    · exact ⟨i_enum fr.1 fr.2 (l_cons (hf _ _ h3) l_nil h4) h4, notSet_fold rfl⟩
    · cases h5
  · obtain ⟨h, h7⟩ := b2a h
    obtain ⟨h, h6⟩ := b2a h
    obtain ⟨h, h5⟩ := b2a h
    obtain ⟨h, h4⟩ := b2a h
    obtain ⟨h, h3⟩ := b2a h
    obtain ⟨h1, h2⟩ := b2a h
    have e : _ = ("zip" : Str) := of_decide_eq_true h1
    subst e
    have fr := g.freeN h2
    unfold isTupE at h7
    split at h7
    · exact ⟨i_zip fr.1 fr.2 (l_cons (hf _ _ h3) (l_cons (hf _ _ h5) l_nil h6) h4) h4 h6, notSet_fold rfl⟩
    · cases h7
  · obtain ⟨h, h8⟩ := b2a h
    obtain ⟨h, h7⟩ := b2a h
    obtain ⟨h, h6⟩ := b2a h
    obtain ⟨h, h5⟩ := b2a h
    obtain ⟨h, h4⟩ := b2a h
    obtain ⟨h, h3⟩ := b2a h
    obtain ⟨h1, h2⟩ := b2a h
    have e : _ = ("range" : Str) := of_decide_eq_true h1
    subst e
    have fr := g.freeN h2
    exact ⟨i_range3 fr.1 fr.2 (l_cons (hf _ _ h3) (l_cons (hf _ _ h5) (l_cons (hf _ _ h7) l_nil h8) h6) h4) h4 h6 h8, notSet_fold rfl⟩
  · cases h
/-- the parts of a comprehension -/
structure CompOk (M : Ck) (G : Gx) (xc : Nat → Option XCls) (X : Cx) (W : WX) (kind : Nat) (its : List CE) (tg : Tg) (own : List Nat) (conds : List CE) (elt : CE) (el tge ite : Expr) (ifs : List Expr) (scope : Scope) (ow : List (Str × Nat)) : Prop where
  it : PI X tge ite (tMI X.K xc W (wkM G kind its))
  fs : ∀ x, foldedSetIterable ite X.env x = pure x
  bo : BlkOk X.N X.env.scope scope ow
  ow : ow.map (·.2) = own
  sl : ∀ i ∈ tg.slots, i ∈ own
  tg : ∀ (s : Shared) (H : Hp) (C : Addr) (cl : List (Str × Addr)) (fp : List Addr), PG (X.blk s H scope (compEnvC scope cl C X.env) fp) tge (gOf X.K tg)
  cd : ∀ (s : Shared) (H : Hp) (C : Addr) (cl : List (Str × Addr)) (fp : List Addr), PTs (X.blk s H scope (compEnvC scope cl C X.env) fp) ifs (tMT X.K xc WF0 (evConds G conds))
  el : ∀ (s : Shared) (H : Hp) (C : Addr) (cl : List (Str × Addr)) (fp : List Addr), PE (X.blk s H scope (compEnvC scope cl C X.env) fp) el (tM X.K xc WF0 (ev G elt))
theorem comp_ok (g : Cg M G xc k E X W) {f t : CkE → CE → Expr → Bool} (hf : ∀ E X W c e, Cg M G xc k E X W → f E c e = true → PE X e (tM X.K xc W (ev G c))) (ht : ∀ E X W c e, Cg M G xc k E X W → t E c e = true → PT X e (tMT X.K xc W (evT G c)))
    {kind : Nat} {its : List CE} {tg : Tg} {own : List Nat} {conds : List CE} {elt : CE} {el tge it : Expr} {ifs : List Expr} {scope : Scope} (h : compB M E f t kind its tg own conds elt el tge it ifs scope = true) :
    CompOk M G xc X W kind its tg own conds elt el tge it ifs scope (ownOf E.N own) := by
  obtain ⟨h, h7⟩ := b2a h
  obtain ⟨h, h6⟩ := b2a h
  obtain ⟨h, h5⟩ := b2a h
  obtain ⟨h, h4⟩ := b2a h
  obtain ⟨h, h3⟩ := b2a h
  obtain ⟨h1, h2⟩ := b2a h
  have bo := blkOk_by h2
  obtain ⟨i1, i2⟩ := it_ok g (fun c e => hf E X W c e g) h1
  have gb := fun s H C cl fp => g.blk bo.kind s H C cl fp
  refine ⟨i1, i2, by rw [g.N, g.sc]; exact bo, of_decide_eq_true h3, fun i hi => of_decide_eq_true (List.all_eq_true.mp h4 i hi), fun s H C cl fp => chkG_ok (gb s H C cl fp) tg tge h5, fun s H C cl fp => ?_, fun s H C cl fp => hf _ _ _ _ _ (gb s H C cl fp) h7⟩
  split at h6
  · exact ts_nil
  · exact ts_one (ht _ _ _ _ _ (gb s H C cl fp) h6)
  · cases h6
/-! ### what a lambda does is told -/
theorem r_dic {pos : Pos} : PE X (.Dict [] [] pos) (tM X.K xc W (ev G .dic)) := PE.weak pe_dnewK fun σ H Q ⟨F, μ, S, ρ, rel, er, h⟩ p hp => okE_dic (show okE X.K xc μ W F H σ (.ok (.t .dic) S) Q by rw [ev] at h; exact h) rel hp
/-- what the name of a clause must tell -/
def accS (K : PySem.W.Frag) (f : Option Str) (a : Addr) (cls : Value) (d : Option Addr) (nm : Bool) : V → L2.St → Hp → Prop := fun w σ H => nm = true → σ[1]? = some (some (.ref a)) ∧
  ∀ g, f = some g → ∃ C dd fs, cls = .ref C ∧ XfC K C ∧ PySem.W.findIn K (.ref C) g = some none ∧ d = some dd ∧ H dd = some (.xd fs) ∧ fs.lookup g = some w
def clOf (M : Ck) (K : PySem.W.Frag) : List (Nat × TR) → List ExceptHandler → List Cl
  | h :: hs, .ExceptHandler (some (.Name e _)) nm _ _ :: hds => (.ref (He.ga K e), nm.isSome, fun a cls d De σ H => tTR K (accS K (M.attr h.1) a cls d nm.isSome) h.2 σ H De.rt) :: clOf M K hs hds
  | _, _ => []
theorem hd_inv {sc : Scope} {nn : Option Str} {h : Nat × TR} {hd : ExceptHandler} (q : hdB M sc nn h hd = true) : ∃ e p nm r p1 p2, hd = .ExceptHandler (some (.Name e p)) nm [.Return (some r) p1] p2 ∧ M.clm[h.1]? = some e ∧ glB sc e = true ∧ okName e = true ∧ (nm = none ∨ nm = nn) ∧ trB (glB sc "repr" && decide (("repr" : Str) ∈ M.free)) nm (M.attr h.1) h.2 r = true := by
  unfold hdB at q
  split at q
  · obtain ⟨q, q5⟩ := b2a q
    obtain ⟨q, q4⟩ := b2a q
    obtain ⟨q, q3⟩ := b2a q
    obtain ⟨q1, q2⟩ := b2a q
    refine ⟨_, _, _, _, _, _, rfl, of_decide_eq_true q1, q2, q3, ?_, q5⟩
    rcases Bool.or_eq_true_iff.mp q4 with z | z
    · exact .inl (of_decide_eq_true z)
    · exact .inr (of_decide_eq_true z)
  · cases q
theorem hds_ok {Z : Cx} {sc : Scope} {nn : Option Str} (hun : Z.A.units + 100 < cLine) (hgd : Z.A.guards = some []) (hfr : ∀ x ∈ M.free, Z.mg x = none) (hsc : Z.env.scope = sc) (hcl : ∀ (c : Nat) (x : Str), M.clm[c]? = some x → Z.mg x = some (.ref (He.ga Z.K x))) (hnn : ∀ n, nn = some n → Z.N[1]? = some n ∧ sc.names.lookup n = some .local) :
    ∀ {hs : List (Nat × TR)} {hds : List ExceptHandler}, allB (hdB M sc nn) hs hds = true → HdsN Z 1 hds (clOf M Z.K hs hds)
  | [], [], _ => .nil
  | [], _ :: _, h => by cases h
  | _ :: _, [], h => by cases h
  | h :: hs, hd :: hds, q => by
    obtain ⟨q1, q2⟩ := b2a (show (hdB M sc nn h hd && allB (hdB M sc nn) hs hds) = true from q)
    obtain ⟨e, p, nm, r, p1, p2, rfl, h1, h2, h3, h4, h5⟩ := hd_inv q1
    have gl : L2.Gl Z e := by
      unfold glB at h2
      split at h2
      · rename_i z
        show Z.env.scope.names.lookup e = _
        rw [hsc]; exact z
      · cases h2
    have nmn : ∀ n, nm = some n → Z.N[1]? = some n ∧ Z.env.kindOf n = some .local := fun n en => by
      rcases h4 with z | z
      · rw [z] at en; cases en
      · obtain ⟨a1, a2⟩ := hnn n (by rw [← z]; exact en)
        exact ⟨a1, by unfold Env.kindOf; rw [hsc]; exact a2⟩
    refine .cons ⟨gl, (okName_ok h3).1, .inl (hcl _ _ h1)⟩ nmn (fun a oe cls d pn hz hf => ?_) (hds_ok hun hgd hfr hsc hcl hnn q2)
    refine PSs.weak (pss_one (ps_ret (tr_ok (Acc := accS Z.K (M.attr h.1) a cls d nm.isSome) (fun m g pp1 pp2 en eg hm => ?_) (fun zr => ?_) h5).1)) fun De σ H z => z
    rotate_left 1
    · obtain ⟨y1, y2⟩ := b2a zr
      refine ⟨call_reprU hun hgd, ?_, hfr _ (of_decide_eq_true y2)⟩
      unfold glB at y1
      split at y1
      · rename_i z
        show Z.env.scope.names.lookup ("repr" : Str) = _
        rw [hsc]; exact z
      · cases y1
    refine ⟨fun pins s σ H Q I ⟨w, acc, q⟩ => ?_⟩
    obtain ⟨a1, a2⟩ := acc (by rw [en]; rfl)
    obtain ⟨C, dd, fs, e1, xf, no, e2, e3, e4⟩ := a2 g eg
    obtain ⟨n1, n2⟩ := nmn m en
    exact (pe_xf xf no hz hf (pe_var (i := 1) n1 (.inl n2) (okName_ok hm).1 (okName_ok hm).2) rfl).run pins s σ H Q I ⟨.ref a, a1, rfl, e1, dd, fs, w, e2, e3, e4, q⟩
/-- what is given back of what was answered: the end's; or beside x -/
def kEnd (K : PySem.W.Frag) (fin : TR) : Option D → V → Hp → VK → Prop
  | none, _, H, Q => tTR K (fun _ _ _ => True) fin [] H Q
  | some x, v, H, Q => [cv x, v].length ≤ sizeLine ∧ ∀ p, H p = none → Q (.ref p) (upd H p (.tup [cv x, v]))
def TTell (K : PySem.W.Frag) (l : List Cl) (fin : TR) (to : Option D) : (XK → Hp → VK → Prop) → Hp → VK → Prop := fun tl H Q =>
  tl (fun cls d H' => ∀ σ, wManyN K (fun _ _ _ _ => False) Q 1 l cls d σ H') H fun v H' => kEnd K fin to v H' Q
theorem tTR_any {K : PySem.W.Frag} {fin : TR} {σ σ' : L2.St} {H : Hp} {Q : VK} (h : tTR K (fun _ _ _ => True) fin σ H Q) : tTR K (fun _ _ _ => True) fin σ' H Q := by
  cases fin with
  | d x => exact h
  | tup xs => exact h
  | tupR x => exact h
  | catR x => exact h
theorem tell_gives {a : Str} {nn : Option Str} {x q : Str} {sg : Scope} {gz : Addr} {cz : Value} {h0 : ExceptHandler} {hds : List ExceptHandler} {hs : List (Nat × TR)} {fin : TR} {r : Expr} {p1 p2 p3 p4 p5 : Pos} (SC : FnScope (a :: nn.toList) [a] sg) (hcl : ∀ (c : Nat) (x : Str), M.clm[c]? = some x → X.mg x = some (.ref (He.ga X.K x)))
    (hnn : ∀ n, nn = some n → sg.names.lookup n = some .local) (hh : allB (hdB M sg nn) hs (h0 :: hds) = true) (hf : trB false none none fin r = true) (hun : X.A.units + 120 < cLine) (hgd : X.A.guards = some []) (hfr : ∀ x ∈ M.free, X.mg x = none) :
    LamX.GivesTo X (a :: nn.toList) x sg gz cz [.Try [.Expr (.Call (.Name a p1) [] [] p2) p3] (h0 :: hds) [] [] p4, .Return (some r) p5] a q (TTell X.K (clOf M X.K hs (h0 :: hds)) fin none) := by
  intro fo co s H Q tl act hc h
  refine ⟨_, pss_cons (s_tryN (X := (cxOf C8.CX0 X.prog X.w X.K X.mg X.base (a :: nn.toList) x sg gz cz X.A X.stack s H C8.E0).nox) (i := 1) (Wout := fun _ _ _ _ => False)
    (tb := fun W D σ H => ∃ Ec : XK, (∀ cls d σ' H', Ec cls d H' → W cls d σ' H') ∧ σ[0]? = some (some (.ref fo)) ∧ H co = some (LamX.CodeO co q) ∧ tl Ec H fun _ H' => D.nx σ H')
    rfl rfl SC.nd LamX.takes0 (fun W pn xe tk _ => ⟨fun pz s' σ H' D I ⟨Ec, hW, a1, a2, a3⟩ => ?_⟩) (hds_ok (Z := (cxOf C8.CX0 X.prog X.w X.K X.mg X.base (a :: nn.toList) x sg gz cz X.A X.stack s H C8.E0).nox) (sc := sg) (by show X.A.units + 3 + 100 < cLine; omega) hgd hfr rfl hcl (fun n en => ⟨by rw [en]; rfl, hnn n en⟩) hh))
    (pss_one (ps_ret (PE.weak (tr_ok (Acc := fun _ _ _ => True) (fun m g pp1 pp2 en eg hm => by cases en) (fun z => by cases z) hf).1 (t' := fun _ H Q => tTR X.K (fun _ _ _ => True) fin [] H Q) fun σ H Q z => tTR_any z))), ?_⟩
  · exact (pss_one (ps_expr (pos := p3) (act W pn xe Ec p1 p2 tk hW))).run pz s' σ H' D I ⟨a1, a2, a3⟩
  · exact ⟨fun cls d H' => ∀ σ, wManyN X.K (fun _ _ _ _ => False) Q 1 (clOf M X.K hs (h0 :: hds)) cls d σ H', fun cls d σ' H' z => z σ', by simp [L2.start], hc, h⟩
theorem tell_gives2 {a : Str} {nn : Option Str} {x q : Str} {sg : Scope} {gz : Addr} {cz : Value} {h0 : ExceptHandler} {hds : List ExceptHandler} {hs : List (Nat × TR)} {fin : TR} {x0 : D} {kc : Const} {jc kt : Nat} {p1 p2 p3 p4 p5 p6 : Pos} (SC : FnScope (a :: nn.toList) [a] sg) (hcl : ∀ (c : Nat) (x : Str), M.clm[c]? = some x → X.mg x = some (.ref (He.ga X.K x)))
    (hnn : ∀ n, nn = some n → sg.names.lookup n = some .local) (hh : allB (hdB M sg nn) hs (h0 :: hds) = true) (hx : constB kc x0 = true) (hun : X.A.units + 120 < cLine) (hgd : X.A.guards = some []) (hfr : ∀ x ∈ M.free, X.mg x = none) :
    LamX.GivesTo X (a :: nn.toList) x sg gz cz [.Try [.Return (some (.Tuple [.Constant kc jc p6, .Call (.Name a p1) [] [] p2] kt p5)) p3] (h0 :: hds) [] [] p4] a q (TTell X.K (clOf M X.K hs (h0 :: hds)) fin (some x0)) := by
  intro fo co s H Q tl act hc h
  refine ⟨_, pss_one (s_tryN (X := (cxOf C8.CX0 X.prog X.w X.K X.mg X.base (a :: nn.toList) x sg gz cz X.A X.stack s H C8.E0).nox) (i := 1) (Wout := fun _ _ _ _ => False)
    (tb := fun W D σ H => ∃ Ec : XK, (∀ cls d σ' H', Ec cls d H' → W cls d σ' H') ∧ σ[0]? = some (some (.ref fo)) ∧ H co = some (LamX.CodeO co q) ∧ tl Ec H fun v H' => [cv x0, v].length ≤ sizeLine ∧ ∀ p, H' p = none → D.rt (.ref p) (upd H' p (.tup [cv x0, v])))
    rfl rfl SC.nd LamX.takes0 (fun W pn xe tk _ => ⟨fun pz s' σ H' D I ⟨Ec, hW, a1, a2, a3⟩ => ?_⟩) (hds_ok (Z := (cxOf C8.CX0 X.prog X.w X.K X.mg X.base (a :: nn.toList) x sg gz cz X.A X.stack s H C8.E0).nox) (sc := sg) (by show X.A.units + 3 + 100 < cLine; omega) hgd hfr rfl hcl (fun n en => ⟨by rw [en]; rfl, hnn n en⟩) hh)), ?_⟩
  · obtain ⟨_, c1⟩ := const_cv hx
    refine (pss_one (ps_ret (PE.weak (pe_tup (pa_cons (c1 _ jc p6) (pa_cons (act W pn xe Ec p1 p2 tk hW) pa_nil (starEach_plain rfl)) (starEach_plain rfl))) (t' := fun σ H Q => σ[0]? = some (some (.ref fo)) ∧ H co = some (LamX.CodeO co q) ∧ tl Ec H fun v H' => [cv x0, v].length ≤ sizeLine ∧ ∀ p, H' p = none → Q (.ref p) (upd H' p (.tup [cv x0, v]))) fun σ H Q ⟨z1, z2, z3⟩ => ?_))).run pz s' σ H' D I ⟨a1, a2, a3⟩
    exact ⟨z1, z2, z3⟩
  · exact ⟨fun cls d H' => ∀ σ, wManyN X.K (fun _ _ _ _ => False) Q 1 (clOf M X.K hs (h0 :: hds)) cls d σ H', fun cls d σ' H' z => z σ', by simp [L2.start], hc, h⟩
theorem extN_rel {K : PySem.W.Frag} {F H H1 : Hp} {μ : List Addr} {S : Store} (r : Rel K F μ S H) (e : LamX.ExtN H H1) (t : LamX.Tabs (tabT K) H1) : Rel K F μ S H1 ∧ Ext μ F H F H1 := by
  refine ⟨⟨fun a u h => e a u (r.sub a u h) (r.ft a u h), r.len, r.nd, fun k a xs h1 h2 => ?_, r.dis, r.ft, t, fun k a x fs e1 e2 => (r.ob2 k a x fs e1 e2).to (fun _ _ h => h) (fun _ _ h => h) fun o n h => e a o h n⟩, fun a u h => h, fun a h => rfl, fun a u h n _ => e a u h n, fun a h g => ?_⟩
  · obtain ⟨vs, a1, a2⟩ := r.obj k a xs h1 h2
    exact ⟨vs, e a _ a1 (fun _ z => by cases z), a2⟩
  · exact h fun o h1 n => g o (e a o h1 n) n
theorem many_rd {F H : Hp} {μ : List Addr} {S : Store} {cc : Nat} {p : List D} {d0 : D} {cls : Value} {d : Option Addr} {Q : VK} {sc : Scope} {nn : Option Str} {P : Program} {w : World} {K : PySem.W.Frag} {mg : Str → Option Value} {base : Heap} (st : Sta M G xc k P w K mg base) (rel : Rel K F μ S H) (xr : XR K xc F H cc p cls d)
    (kk : ∀ F' H' v, Ext μ F H F' H' → Rel K F' μ S H' → Rp K F' v d0 → Q v H') : ∀ {hs : List (Nat × TR)} {hds : List ExceptHandler}, allB (hdB M sc nn) hs hds = true → (tlFind G.sub cc hs).bind (TR.ev p) = some d0 → ∀ σ, wManyN K (fun _ _ _ _ => False) Q 1 (clOf M K hs hds) cls d σ H
  | [], _, _, h, _ => by cases h
  | _ :: _, [], h, _, _ => by cases h
  | h :: hs, hd :: hds, q, hd0, σ => by
    obtain ⟨q1, q2⟩ := b2a (show (hdB M sc nn h hd && allB (hdB M sc nn) hs hds) = true from q)
    obtain ⟨e, pp, nm, r, p1, p2, rfl, h1, h2, h3, h4, h5⟩ := hd_inv q1
    obtain ⟨y, hy, ec, hat⟩ := xr
    obtain ⟨n, hn⟩ := st.xcs cc y hy
    obtain ⟨ck, hc⟩ := st.cls cc n hn
    rw [hy] at hc
    cases hc
    refine ⟨G.sub cc h.1, by rw [ec]; exact st.sub cc h.1 n e hn h1, fun z a ha σ2 hσ => ?_, fun z => ?_⟩
    · rw [tlFind, if_pos z] at hd0
      have hd0 : TR.ev p h.2 = some d0 := hd0
      refine tr_rd (tr_fl h5) rel hd0 (fun q eq => ?_) kk
      subst eq
      cases ea : M.attr cc with
      | none =>
        have hat : (match M.attr cc, [q] with
          | none, [] => True
          | some f, [q] => ∃ dd v, d = some dd ∧ H dd = some (.xd [(f, v)]) ∧ Rp K F v q
          | _, _ => False) := hat
        rw [ea] at hat
        exact hat.elim
      | some f =>
        have hat : (match M.attr cc, [q] with
          | none, [] => True
          | some f, [q] => ∃ dd v, d = some dd ∧ H dd = some (.xd [(f, v)]) ∧ Rp K F v q
          | _, _ => False) := hat
        rw [ea] at hat ck
        obtain ⟨dd, v, e1, e2, e3⟩ := hat
        have ck : ClsA P K mg n f := ck
        refine ⟨v, fun nt => ⟨hσ nt, fun g eg => ?_⟩, e3⟩
        have := st.sat cc h.1 n e g hn h1 z eg
        rw [ea] at this
        cases this
        exact ⟨_, dd, _, ec, ck.xf, ck.no, e1, e2, by simp [List.lookup]⟩
    · rw [tlFind, if_neg (by rw [z]; exact Bool.false_ne_true)] at hd0
      exact many_rd st rel ⟨_, hy, ec, hat⟩ kk q2 hd0 σ
/-- what is told, of what the lambda does -/
theorem tell_rd {c : CE} {tl : Tl} {sc : Scope} {nn : Option Str} {hds : List ExceptHandler} (st : Sta M G xc k X.prog X.w X.K X.mg X.base) (hh : allB (hdB M sc nn) tl.hs hds = true) (hf : tl.told = none → tl.fin.fl) (hx : ∀ x, tl.told = some x → x.flat = true) {σ : L2.St} {H : Hp} {Q : VK}
    (h : tM X.K xc W (fun ρ s => tellR G.sub tl (ev G.low c ρ s)) σ H Q) :
    LamX.tLam (tabT X.K) (TTell X.K (clOf M X.K tl.hs hds) tl.fin tl.told) (fun E => tM X.K xc (fun cls d _ H => E cls d H) (ev G.low c)) σ H Q := by
  obtain ⟨F, μ, S, ρ, rel, er, h⟩ := h
  refine ⟨rel.tab, fun H1 eN T1 => ?_⟩
  obtain ⟨rel1, x1⟩ := extN_rel rel eN T1
  refine ⟨F, μ, S, ρ, rel1, er.step x1, ?_⟩
  cases q : ev G.low c ρ S with
  | bad => simp only [q, tellR] at h; exact h.elim
  | ok b S' =>
    simp only [q, tellR] at h
    cases et : tl.told with
    | none =>
      rw [et] at h
      dsimp only at h
      cases e : tl.fin.ev [] with
      | none => rw [e] at h; exact h.elim
      | some d0 =>
        rw [e] at h
        have h : okE X.K xc μ W F H σ (.ok (.t d0) S') Q := h
        exact fun F' H' v x r bv fr => tr_rd (hf et) r e (fun q z => by cases z) fun F2 H2 v2 x2 r2 rp => h F2 H2 v2 (x1.trans (x.trans x2)) r2 rp trivial
    | some x0 =>
      rw [et] at h
      dsimp only at h
      have hx := hx x0 et
      refine okE_still ?_
      cases e : b.frz with
      | none => rw [e] at h; exact h.elim
      | some d0 =>
        rw [e] at h
        have h : okE X.K xc μ W F H σ (.ok (.t (.tup [x0, d0])) S') Q := h
        intro F' H' v x r bv fr
        refine ⟨by rw [← line_eq]; exact (by decide : 2 ≤ line), fun p hp => ?_⟩
        have x2 : Ext μ F' H' (upd F' p (.tup [cv x0, v])) (upd H' p (.tup [cv x0, v])) := Ext.new r.sub hp nt_tup
        exact h _ _ _ (x1.trans (x.trans x2)) (r.new hp nt_tup) (.tup (SqT.of upd_same) (.cons ((cv_rp hx).mono x2.fs) (.cons ((frz_still e bv).mono x2.fs) .nil))) trivial
  | ex cc p S' =>
    simp only [q, tellR] at h
    cases e : (tlFind G.sub cc tl.hs).bind (TR.ev p) with
    | none => rw [e] at h; exact h.elim
    | some d0 =>
      rw [e] at h
      have h : okE X.K xc μ W F H σ (.ok (.t d0) S') Q := h
      exact fun F' H' cls d x r xr σ2 => many_rd st r xr (fun F2 H2 v2 x2 r2 rp => h F2 H2 v2 (x1.trans (x.trans x2)) r2 rp trivial) hh e σ2
theorem noArgs_ok {ps : Arguments} (h : noArgs ps = true) : ps = ⟨[], [], none, [], [], none, []⟩ := by
  unfold noArgs at h
  split at h
  · rfl
  · cases h
theorem calC_bad {P : Program} {w : World} {K : PySem.W.Frag} {mg : Str → Option Value} {base : Heap} {a : Addr} : CalC P w K mg base xc k a (fun _ _ => .bad) := ⟨fun X W pins σ s H us vs F μ S bs Q e1 e2 e3 e4 e5 hr hgd tk I rv rel brs hok => hok.elim⟩
theorem fnC_bad {P : Program} {w : World} {K : PySem.W.Frag} {mg : Str → Option Value} {base : Heap} {a : Addr} : FnC P w K mg base xc k a (fun _ _ => .bad) := ⟨fun A outer s H us vs F μ S bs Q E hr hgd e0 rv rel brs hok => hok.elim⟩
theorem low_sta {j : Nat} {P : Program} {w : World} {K : PySem.W.Frag} {mg : Str → Option Value} {base : Heap} (st : Sta M G xc (j + 2) P w K mg base) : Sta M G.low xc j P w K mg base where
  fns := fun f x h => st.fn2 j rfl f x h
  gcs := st.gcs
  free := st.free
  gcd := st.gcd
  cls := st.cls
  xcs := st.xcs
  sub := st.sub
  tls := fun t x tl _ h => by cases h
  fn2 := fun i _ f x h => by
    obtain ⟨a, h1, h2, _⟩ := st.fns f x h
    exact ⟨a, h1, h2, calC_bad⟩
  mkr := st.mkr
  tnd := st.tnd
  slc := st.slc
  mts := fun i y m h => st.mts2 j rfl i y m h
  mts2 := fun i _ n y m h => by
    obtain ⟨g, h1, _⟩ := st.mts n y m h
    exact ⟨g, h1, calC_bad⟩
  obs := fun c y h z Fo e => by cases e
  sat := st.sat
  od2 := fun h => by cases h
  gds := st.gds
  odd := st.odd
theorem takes_lam {A : Around} {outer : List PySem.Env} {s : Shared} {H : Hp} {E : XK} {sc : Scope} {fo co : Addr} : Takes (LamX.lamCx X A outer s H E sc fo co) (fun cls d _ H => E cls d H) := takes_of rfl rfl rfl rfl
theorem tell_ok (g : Cg M G xc k E X W) {t : Nat} {c : CE} {x : Str} {ps : Arguments} {body : Expr} {sc : Scope} {p lp pos : Pos} (h : tellB M E t x ps sc = true)
    (hb : ∀ j X' W', Cg M G.low xc j ⟨E.N, sc, fun _ => false, false⟩ X' W' → PE X' body (tM X'.K xc W' (ev G.low c))) : PE X (.Call (.Name x p) [.Lambda ps body sc lp] [] pos) (tM X.K xc W (ev G (.tell t c))) := by
  obtain ⟨h, h6⟩ := b2a h
  obtain ⟨h, h5⟩ := b2a h
  obtain ⟨h, h4⟩ := b2a h
  obtain ⟨h, h3⟩ := b2a h
  obtain ⟨h1, h2⟩ := b2a h
  cases q : G.tl t with
  | none => exact ⟨fun pins s σ H Q I ⟨F, μ, S, ρ, rel, er, z⟩ => by rw [ev, q] at z; exact z.elim⟩
  | some tl =>
  obtain ⟨⟨j, hj⟩, a, fd, st, hmg, FD, hpar, htl⟩ := g.st.tls t x tl (of_decide_eq_true h1) q
  subst hj
  obtain ⟨cc, P, c1, c2, c3⟩ := g.lamc h4
  have L : LamX.LamS X.env.scope sc := LamX.lamS_by (by rw [g.sc]; exact h5)
  have eps := noArgs_ok h6
  subst eps
  have nm := (okName_ok h3).1
  unfold tlB at htl
  split at htl
  · rename_i a' e1 p1 hd hds p2 r p3 eps ebd
    obtain ⟨htl, t6⟩ := b2a htl
    obtain ⟨htl, t5⟩ := b2a htl
    obtain ⟨htl, t4⟩ := b2a htl
    obtain ⟨htl, t3⟩ := b2a htl
    obtain ⟨htl, t2⟩ := b2a htl
    obtain ⟨t0, t1⟩ := b2a htl
    have t0 := Option.isNone_iff_eq_none.mp t0
    unfold actB at t3
    split at t3
    · rename_i b pb pc
      have eb := of_decide_eq_true t3
      subst eb
      have SC := scope_ok t1
      have hv : Vis (defScope st) a' := (SC.par a' List.mem_cons_self).elim (fun z => .inl z) (fun z => .inr (.inl z))
      have hnn : ∀ n, hdNm (hd :: hds) = some n → (defScope st).names.lookup n = some .local := fun n en => by
        rw [en] at t4
        exact localB_ok t4
      rw [ebd] at FD
      have fun1 : ev G (.tell t c) = fun ρ s => tellR G.sub tl (ev G.low c ρ s) := by
        funext ρ s
        rw [ev, q]
      rw [fun1]
      refine PE.weak (pe_tell (k := j) (T := tabT X.K) (g.gl h2) hmg FD (a := a') (Ng := a' :: (hdNm (hd :: hds)).toList) (fun s u => ?_) SC rfl hv (fun cdg => tell_gives SC (fun c x hx => (g.st.cls c x hx).1.at_) hnn t5 t6 (by have := g.room.un; omega) g.gd g.st.free) c2 c1 c3 (fun p hp e => g.st.tnd p hp _ c3 e) g.room L rfl (fun _ _ _ => rfl)
        (t := fun E => tM X.K xc (fun cls d _ H => E cls d H) (ev G.low c)) (fun A outer s H E fo co gd r => hb j _ _ ?_) nm (okName_ok t2).1 (okName_ok t2).2) fun σ H Q z => by have z := tell_rd g.st t5 (fun _ => tr_fl t6) (fun x e => by rw [t0] at e; cases e) z; rw [t0] at z; exact z
      · refine FD.bindsA (ps := [a']) (fun kV doc pm an cdv ct us hl => ?_) s [u] rfl
        match us, hl with
        | [u], _ =>
          obtain ⟨b, eb, ez⟩ := hpar kV doc pm an cdv ct u
          rw [eps] at eb
          cases eb
          rw [ebd] at ez
          exact ez
      · exact ⟨g.N, g.nd, rfl, L.kind, rfl, r, gd.trans g.gd, takes_lam, (fun _ z => nomatch (show false = true from z)), low_sta g.st, (fun z => nomatch (show false = true from z))⟩
    · cases t3
  · rename_i a' kc jc p6 e1 kt p5 p3 hd hds p4 eps ebd
    obtain ⟨htl, t5⟩ := b2a htl
    obtain ⟨htl, t4⟩ := b2a htl
    obtain ⟨htl, t3⟩ := b2a htl
    obtain ⟨htl, t2⟩ := b2a htl
    obtain ⟨t0, t1⟩ := b2a htl
    cases et : tl.told with
    | none => rw [et] at t0; cases t0
    | some x0 =>
    rw [et] at t0
    have t0 : constB kc x0 = true := t0
    unfold actB at t3
    split at t3
    · rename_i b pb pc
      have eb := of_decide_eq_true t3
      subst eb
      have SC := scope_ok t1
      have hv : Vis (defScope st) a' := (SC.par a' List.mem_cons_self).elim (fun z => .inl z) (fun z => .inr (.inl z))
      have hnn : ∀ n, hdNm (hd :: hds) = some n → (defScope st).names.lookup n = some .local := fun n en => by
        rw [en] at t4
        exact localB_ok t4
      rw [ebd] at FD
      have fun1 : ev G (.tell t c) = fun ρ s => tellR G.sub tl (ev G.low c ρ s) := by
        funext ρ s
        rw [ev, q]
      rw [fun1]
      refine PE.weak (pe_tell (k := j) (T := tabT X.K) (g.gl h2) hmg FD (a := a') (Ng := a' :: (hdNm (hd :: hds)).toList) (fun s u => ?_) SC rfl hv (fun cdg => tell_gives2 (fin := tl.fin) SC (fun c x hx => (g.st.cls c x hx).1.at_) hnn t5 t0 (by have := g.room.un; omega) g.gd g.st.free) c2 c1 c3 (fun p hp e => g.st.tnd p hp _ c3 e) g.room L rfl (fun _ _ _ => rfl)
        (t := fun E => tM X.K xc (fun cls d _ H => E cls d H) (ev G.low c)) (fun A outer s H E fo co gd r => hb j _ _ ?_) nm (okName_ok t2).1 (okName_ok t2).2) fun σ H Q z => by
          have z := tell_rd g.st t5 (fun e => by rw [et] at e; cases e) (fun x e => by rw [et] at e; cases e; exact (const_cv t0).1) z
          rw [et] at z
          exact z
      · refine FD.bindsA (ps := [a']) (fun kV doc pm an cdv ct us hl => ?_) s [u] rfl
        match us, hl with
        | [u], _ =>
          obtain ⟨b, eb, ez⟩ := hpar kV doc pm an cdv ct u
          rw [eps] at eb
          cases eb
          rw [ebd] at ez
          exact ez
      · exact ⟨g.N, g.nd, rfl, L.kind, rfl, r, gd.trans g.gd, takes_lam, (fun _ z => nomatch (show false = true from z)), low_sta g.st, (fun z => nomatch (show false = true from z))⟩
    · cases t3
  · cases htl
/-! ### the first odd item -/
def oddK (od : Bool) (p : D → Store → R B) (b : B) (s : Store) : R B := match b with
  | .t d => match itemsD d with
    | some xs => if od then oddR p xs 0 s else .bad
    | none => .bad
  | _ => .bad
theorem oddK_rd {K : PySem.W.Frag} {F H : Hp} {μ : List Addr} {S : Store} {σ : L2.St} {Q : VK} {od : Bool} {p : D → Store → R B} {b : B} {v : V} (h : okE K xc μ W F H σ (oddK od p b S) Q) (bv : BRp K F μ H v b) : od = true ∧ ∃ d xs, Rp K F v d ∧ itemsD d = some xs ∧ okE K xc μ W F H σ (oddR p xs 0 S) Q := by
  cases b with
  | t d =>
    unfold oddK at h
    dsimp only at h
    cases e : itemsD d with
    | none => rw [e] at h; exact h.elim
    | some xs =>
      rw [e] at h
      cases od with
      | true => exact ⟨rfl, d, xs, bv, e, h⟩
      | false => exact (show False from h).elim
  | _ => exact (show False from h).elim
theorem okE_sig {K : PySem.W.Frag} {F H : Hp} {μ : List Addr} {σ σ' : L2.St} {r : R B} {Q : VK} (h : okE K xc μ WF0 F H σ r Q) : okE K xc μ (fun _ _ _ _ => False) F H σ' r Q := by
  cases r with
  | ok b s => exact h
  | ex c p s => exact h
  | bad => exact h
theorem ev_oddF {o f : Nat} {c : CE} {ρ : Env} {s : Store} : ev G (.oddF o c f) ρ s = (ev G c ρ s).bind (oddK G.od fun x s => G.fn2 f [.t x] s) := by
  rw [ev]
  rfl
theorem ev_oddL {o : Nat} {c b : CE} {ρ : Env} {s : Store} : ev G (.oddL o c b) ρ s = (ev G c ρ s).bind (oddK G.od fun x s => ev G.low b (ρ ++ [some (.t x)]) s) := by
  rw [ev]
  rfl
theorem odB_inv {st : Stmt} (h : odB M st = true) : ∃ (r f a o : Str) (tg it : Expr) (j : Nat) (q1 q2 q3 q4 q5 q6 q7 q8 q9 q10 : Pos), (defArgs st).args.map (·.arg) = [r, f] ∧
    defBody st = [.For tg it [.If (.UnaryOp .Not (.Call (.Name f q1) [.Name o q2] [] q3) q4) [.Return (some (.Name a q5)) q6] [] q7] [] q8, .Return (some (.Constant .none j q9)) q10] ∧ scopeB [r, f, a, o] [r, f] (defScope st) = true ∧
    itB M ⟨[r, f, a, o], defScope st, fun _ => true, false⟩ (vE ⟨[r, f, a, o], defScope st, fun _ => true, false⟩) tg 3 [.var 0] it = true ∧ chkG ⟨[r, f, a, o], defScope st, fun _ => true, false⟩ (.tup [.nm 2, .nm 3]) tg = true ∧
    visB (defScope st) f = true ∧ visB (defScope st) o = true ∧ visB (defScope st) a = true ∧ okName f = true ∧ okName o = true ∧ okName a = true := by
  unfold odB at h
  split at h
  · rename_i r f a p1 o p2 tk tp it f' q1 o' q2 q3 q4 a' q5 q6 q7 q8 j q9 q10 e1 e2
    obtain ⟨h, h12⟩ := b2a h
    obtain ⟨h, h11⟩ := b2a h
    obtain ⟨h, h10⟩ := b2a h
    obtain ⟨h, h9⟩ := b2a h
    obtain ⟨h, h8⟩ := b2a h
    obtain ⟨h, h7⟩ := b2a h
    obtain ⟨h, h6⟩ := b2a h
    obtain ⟨h, h5⟩ := b2a h
    obtain ⟨h, h4⟩ := b2a h
    obtain ⟨h, h3⟩ := b2a h
    obtain ⟨h1, h2⟩ := b2a h
    have e4 := of_decide_eq_true h4
    have e5 := of_decide_eq_true h5
    have e6 := of_decide_eq_true h6
    rw [e4, e5, e6] at e2
    exact ⟨r, f, a, o, _, it, j, q1, q2, q3, q4, q5, q6, q7, q8, q9, q10, e1, e2, h1, h2, h3, h7, h8, h9, h10, h11, h12⟩
  · cases h
theorem vE_ok (g : Cg M G xc k E X W) {c : CE} {e : Expr} (h : vE E c e = true) : PE X e (tM X.K xc W (ev G c)) := by
  unfold vE at h
  split at h
  · obtain ⟨h, h3⟩ := b2a h
    obtain ⟨h1, h2⟩ := b2a h
    exact r_var (pe_var (g.ix h1) (g.vis h2) (okName_ok h3).1 (okName_ok h3).2)
  · cases h
theorem oddF_ok (g : Cg M G xc k E X W) {o f : Nat} {c : CE} {x y : Str} {e : Expr} {p p2 pos : Pos} (h : oddB M E o x = true) (hE : PE X e (tM X.K xc W (ev G c))) (hs : notStar e = true) (hy : nameB M E f y = true) :
    PE X (.Call (.Name x p) [e, .Name y p2] [] pos) (tM X.K xc W (ev G (.oddF o c f))) := by
  obtain ⟨h, hd⟩ := b2a h
  obtain ⟨h1, h2⟩ := b2a h
  obtain ⟨hy, y3⟩ := b2a hy
  obtain ⟨y1, y2⟩ := b2a hy
  obtain ⟨ga, fd, st, hmg, FD, par, hod⟩ := g.st.odd o x (of_decide_eq_true h1)
  obtain ⟨r0, f0, a0, o0, tg, it, jj, q1, q2, q3, q4, q5, q6, q7, q8, q9, q10, ea, ebd, b1, b2, b3, b4, b5, b6, b7, b8, b9⟩ := odB_inv hod
  have SC := scope_ok b1
  obtain ⟨fa, m1, m2, _⟩ := g.st.fns f y (of_decide_eq_true y1)
  refine ⟨fun pins s σ H Q I ⟨F, μ, S, ρ, rel, er, hq⟩ => ?_⟩
  rw [ev_oddF] at hq
  have har : tCons (tM X.K xc W (ev G c)) (tCons (tC (.ref fa)) tNil) σ H (fun vs H1 => ∃ F1 S1 v d xs, vs = [v, .ref fa] ∧ G.od = true ∧ Rel X.K F1 μ S1 H1 ∧ Rp X.K F1 v d ∧ itemsD d = some xs ∧ okE X.K xc μ W F1 H1 σ (oddR (fun x s => G.fn2 f [.t x] s) xs 0 S1) Q) :=
    ⟨F, μ, S, ρ, rel, er, okE_bind hq fun F1 H1 v b S1 e1 r1 bv f1 h1 => by
      obtain ⟨z, d, xs, z1, z2, z3⟩ := oddK_rd h1 bv
      exact ⟨F1, S1, v, d, xs, rfl, z, r1, z1, z2, z3⟩⟩
  refine wpAny_Call_Name_kw (ld_glob I (g.gl h2) hmg ?_ (okName_ok hd).1)
  refine PySem.W.callWith_K (h₀ := X.base) I.ok.mod.kin FD.kp (thn ((pa_cons hE (pa_cons (pe_glob (v := .ref fa) (g.gl y2) m1 rfl (okName_ok y3).1) pa_nil (starEach_plain rfl)) (starEach_plain hs)).run pos pins s σ H _ I har) fun us s1 ⟨vs, H1, I1, rr, F1, S1, v, d, xs, ev, zod, r1, rp, hx, h1⟩ => ⟨I1.kIn, ?_⟩) (starEach_plain hs) (backTo_plain rfl)
  subst ev
  obtain ⟨u0, u1, rfl, ru0, ru1⟩ := rr.two
  cases (show u1 = Value.ref fa from ru1)
  obtain ⟨j, hj⟩ := g.st.od2 zod
  subst hj
  obtain ⟨fa', n1, n2, n3⟩ := g.st.fn2 j rfl f y (of_decide_eq_true y1)
  have ef : fa' = fa := by rw [m1] at n1; cases n1; rfl
  subst ef
  refine run_odd (k := j + 1) (a0 := r0) (a1 := f0) I1 FD (fun s us hl => ?_) SC rfl g.room ru0 r1 rp hx h1 fun cdv hr' => ?_
  · exact FD.bindsA (ps := [r0, f0]) (fun kV doc pm an cdv ct us hl => by
      have := par kV doc pm an cdv ct us (by rw [ea]; exact hl)
      rw [ea] at this
      exact this) s us hl
  · have gZ : Cg M G.low xc j ⟨[r0, f0, a0, o0], defScope st, fun _ => true, false⟩ (cxOf C8.CX0 X.prog X.w X.K X.mg X.base [r0, f0, a0, o0] x (defScope st) ga cdv X.A X.stack s1 H1 C8.E0) WF0 :=
      ⟨rfl, SC.nd, rfl, SC.kind, rfl, hr'.mono (Nat.le_succ _), g.gd, LamX.takes0, fun _ _ => rfl, low_sta g.st, fun z => nomatch (show false = true from z)⟩
    rw [ebd]
    obtain ⟨i1, i2⟩ := it_ok gZ (fun c e => vE_ok gZ) b2
    exact odd_body (passes_of rfl) rfl i1 (chkG_ok gZ _ _ b3) i2 (leaf_def n3 (hr'.mono (Nat.le_succ _)) g.gd m2 (pe_var rfl (gZ.vis b4) (okName_ok b7).1 (okName_ok b7).2) (pe_var rfl (gZ.vis b5) (okName_ok b8).1 (okName_ok b8).2)) (fun whole => rfl) (pe_var rfl (gZ.vis b6) (okName_ok b9).1 (okName_ok b9).2)
theorem bind1 {X : Cx} {aq : Arg} {body : Expr} {sc : Scope} {pm ct : Value} {co : Addr} (u : Value) : bindArgs (lamF X ⟨[], [aq], none, [], [], none, []⟩ body sc pm co ct) ⟨[u], []⟩ = pure [(aq.arg, u)] := by
  have e : List.lookup aq.arg [(aq.arg, u)] = some u := by simp
  unfold bindArgs
  simp [PySem.W.kla_fn, e, seqItems?]
  rfl
theorem oneArg_ok {ps : Arguments} {q : Str} (h : oneArg ps = some q) : ∃ a, ps = ⟨[], [a], none, [], [], none, []⟩ ∧ a.arg = q := by
  unfold oneArg at h
  split at h
  · cases h; exact ⟨_, rfl, rfl⟩
  · cases h
theorem oddL_ok (g : Cg M G xc k E X W) {o : Nat} {c b : CE} {x q : Str} {e body : Expr} {ps : Arguments} {sc : Scope} {p lp pos : Pos} (h : oddB M E o x = true) (hE : PE X e (tM X.K xc W (ev G c))) (hs : notStar e = true) (hl : oddLB E q ps sc = true)
    (hb : ∀ j X' W', Cg M G.low xc j ⟨E.N ++ [q], sc, fun _ => false, false⟩ X' W' → PE X' body (tM X'.K xc W' (ev G.low b))) : PE X (.Call (.Name x p) [e, .Lambda ps body sc lp] [] pos) (tM X.K xc W (ev G (.oddL o c b))) := by
  obtain ⟨h, hd⟩ := b2a h
  obtain ⟨h1, h2⟩ := b2a h
  obtain ⟨hl, l4⟩ := b2a hl
  obtain ⟨hl, l3⟩ := b2a hl
  obtain ⟨l1, l2⟩ := b2a hl
  obtain ⟨aq, eps, eaq⟩ := oneArg_ok (of_decide_eq_true l2)
  subst eps
  obtain ⟨cc, P, c1, c2, c3⟩ := g.lamc l1
  have L : LamP X.env.scope sc q := lamP_by (by rw [g.sc]; exact l3)
  have hq : q ∉ X.N := fun z => by
    rw [g.N] at z
    rw [List.any_eq_true.mpr ⟨q, z, by simp⟩] at l4
    cases l4
  obtain ⟨ga, fd, st, hmg, FD, par, hod⟩ := g.st.odd o x (of_decide_eq_true h1)
  obtain ⟨r0, f0, a0, o0, tg, it, jj, q1, q2, q3, q4, q5, q6, q7, q8, q9, q10, ea, ebd, b1, b2, b3, b4, b5, b6, b7, b8, b9⟩ := odB_inv hod
  have SC := scope_ok b1
  refine ⟨fun pins s σ H Q I ⟨F, μ, S, ρ, rel, er, hq0⟩ => ?_⟩
  rw [ev_oddL] at hq0
  refine wpAny_Call_Name_kw (ld_glob I (g.gl h2) hmg (PySem.W.callWith_K (h₀ := X.base) I.ok.mod.kin FD.kp ?_ (starEach_plain hs) (backTo_plain rfl)) (okName_ok hd).1)
  rw [starEach_plain hs]
  show wpAny _ _ (spliced ((false, eval e X.env) :: (false, eval (.Lambda ⟨[], [aq], none, [], [], none, []⟩ body sc lp) X.env) :: backTo pos (starEach [] X.env))) _ _ s
  refine Calls.spliced_cons (thn (hE.run pins s σ H (fun v H1 => ∃ F1 S1 d xs, G.od = true ∧ Ext μ F H F1 H1 ∧ Rel X.K F1 μ S1 H1 ∧ Rp X.K F1 v d ∧ itemsD d = some xs ∧ okE X.K xc μ W F1 H1 σ (oddR (fun x s => ev G.low b (ρ ++ [some (.t x)]) s) xs 0 S1) Q) I
    ⟨F, μ, S, ρ, rel, er, okE_bind hq0 fun F1 H1 v b S1 e1 r1 bv f1 h1 => by
      obtain ⟨z, d, xs, z1, z2, z3⟩ := oddK_rd h1 bv
      exact ⟨F1, S1, d, xs, z, e1, r1, z1, z2, z3⟩⟩) fun u0 s1 ⟨v, H1, I1, ru0, F1, S1, d, xs, zod, x1, r1, rp, hx, h1⟩ => ?_)
  refine Calls.spliced_cons (LamX.lam_make2 I1 c2 c1 c3 (fun p hp e => g.st.tnd p hp _ c3 e) r1.tab rfl (L.has I1.ok) ?_)
  intro fo co pm ct H2 s2 I2 eN T2 ho hn hfr hco
  refine Calls.spliced_nil ⟨I2.kIn, ?_⟩
  obtain ⟨r2, x2⟩ := extN_rel r1 eN T2
  obtain ⟨j, hj⟩ := g.st.od2 zod
  subst hj
  show wpAny _ _ (call (.ref ga) [u0, .ref fo]) _ _ _
  refine run_odd (k := j + 1) (a0 := r0) (a1 := f0) I2 FD (fun s us hl => ?_) SC rfl g.room ru0 r2 rp hx (h1.step x2) fun cdv hr' => ?_
  · exact FD.bindsA (ps := [r0, f0]) (fun kV doc pm an cdv ct us hl => by
      have := par kV doc pm an cdv ct us (by rw [ea]; exact hl)
      rw [ea] at this
      exact this) s us hl
  · have gZ : Cg M G.low xc j ⟨[r0, f0, a0, o0], defScope st, fun _ => true, false⟩ (cxOf C8.CX0 X.prog X.w X.K X.mg X.base [r0, f0, a0, o0] x (defScope st) ga cdv X.A X.stack s2 H2 C8.E0) WF0 :=
      ⟨rfl, SC.nd, rfl, SC.kind, rfl, hr'.mono (Nat.le_succ _), g.gd, LamX.takes0, fun _ _ => rfl, low_sta g.st, fun z => nomatch (show false = true from z)⟩
    rw [ebd]
    obtain ⟨i1, i2⟩ := it_ok gZ (fun c e => vE_ok gZ) b2
    have nco : NT (LamX.CodeO co (X.env.qual ++ "<lambda>")) := LamX.codeO_ne
    have mco : co ∉ μ := fun z => by
      obtain ⟨o, e, pl⟩ := r2.liveP z
      rw [hco] at e
      cases e
      exact pl.2 _ rfl
    refine odd_body (passes_of rfl) rfl i1 (chkG_ok gZ _ _ b3) i2 (PE.weak (act_callP (E := fun _ _ _ => False) (W := WF0) (k := j) (q := q) (tb := tM X.K xc (fun _ _ _ _ => False) (ev G.low b)) I2 L hq ho hn hfr (fun u => by rw [← eaq]; exact bind1 u) LamX.takes0 (fun cls d σ' H' z => z.elim) hr'
      (fun A outer s H gd r => hb j _ _ ?_) (pe_var rfl (gZ.vis b4) (okName_ok b7).1 (okName_ok b7).2) (pe_var rfl (gZ.vis b5) (okName_ok b8).1 (okName_ok b8).2)) ?_) (fun whole => rfl) (pe_var rfl (gZ.vis b6) (okName_ok b9).1 (okName_ok b9).2)
    · refine ⟨by show X.N ++ [q] = E.N ++ [q]; rw [g.N], ?_, rfl, L.kind, rfl, r, gd.trans g.gd, takes_of rfl rfl rfl rfl, (fun _ z => nomatch (show false = true from z)), low_sta g.st, (fun z => nomatch (show false = true from z))⟩
      show (X.N ++ [q]).Nodup
      rw [List.nodup_append]
      exact ⟨g.nd, by simp, fun a ha b hb e => hq (by rw [List.mem_singleton] at hb; rw [← hb, ← e]; exact ha)⟩
    · rintro σz Hz Qz ⟨F3, S3, v3, x3, k1, k3, xe, r3, rv3, h3⟩
      have h3 : okE X.K xc μ WF0 F3 Hz σz (ev G.low b (ρ ++ [some (B.t x3)]) S3) Qz := h3
      exact ⟨v3, k1, k3, xe.keep co _ hco nco mco, F3, μ, S3, ρ ++ [some (B.t x3)], r3, er_snoc (er.step (x1.trans (x2.trans xe))) rv3, okE_sig h3⟩
/-! ### all -/
theorem marks2 {o1 o2 : CmpOp} {a b : Expr} (h : notSet b = true) : lastMarks [o1, o2] [a, b] = false := notSet_ok h
theorem chk_all (M : Ck) (xc : Nat → Option XCls) : ∀ n, (∀ G k E X W c e, Cg M G xc k E X W → chkE M n E c e = true → PE X e (tM X.K xc W (ev G c))) ∧
    (∀ G k E X W c e, Cg M G xc k E X W → chkT M n E c e = true → PT X e (tMT X.K xc W (evT G c))) := by
  intro n
  induction n with
  | zero =>
    refine ⟨fun G k E X W c e g h => ?_, fun G k E X W c e g h => ?_⟩
    · rw [chkE.eq_def] at h; exact absurd h Bool.false_ne_true
    · rw [chkT.eq_def] at h; exact absurd h Bool.false_ne_true
  | succ n ih =>
    obtain ⟨ihE, ihT⟩ := ih
    have partE : ∀ G k E X W c e, Cg M G xc k E X W → chkE M (n + 1) E c e = true → PE X e (tM X.K xc W (ev G c)) := by
      intro G k E X W c e g h
      have hE := fun c e => ihE G k E X W c e g
      have hT := fun c e => ihT G k E X W c e g
      cases c with
      | var i =>
        rw [chkE.eq_def] at h
        dsimp only at h
        split at h
        · obtain ⟨h, h3⟩ := b2a h
          obtain ⟨h1, h2⟩ := b2a h
          exact r_var (pe_var (g.ix h1) (g.vis h2) (okName_ok h3).1 (okName_ok h3).2)
        · cases h
      | cst d =>
        rw [chkE.eq_def] at h
        dsimp only at h
        split at h
        · exact r_cst (constB_ok h)
        · cases h
      | gc i =>
        rw [chkE.eq_def] at h
        dsimp only at h
        split at h
        · obtain ⟨h, h3⟩ := b2a h
          obtain ⟨h1, h2⟩ := b2a h
          rename_i x _
          cases q : G.gc i with
          | none =>
            refine ⟨fun pins s σ H Q I ⟨F, μ, S, ρ, rel, er, z⟩ => ?_⟩
            rw [ev, q] at z
            exact z.elim
          | some d =>
            obtain ⟨v, u, e1, e2, e3⟩ := g.st.gcs i _ d (of_decide_eq_true h1) q
            exact r_val (pe_glob (g.gl h2) e1 e2 (okName_ok h3).1) e3 fun ρ s => by rw [ev, q]; rfl
        · cases h
      | bin op a b =>
        rw [chkE.eq_def] at h
        dsimp only at h
        split at h
        · obtain ⟨h, h3⟩ := b2a h
          obtain ⟨h1, h2⟩ := b2a h
          rw [← opEq_ok h1]
          exact r_binAll (hE _ _ h2) (hE _ _ h3)
        · cases h
      | neg a =>
        rw [chkE.eq_def] at h
        dsimp only at h
        split at h
        · exact r_neg (hE _ _ h)
        · cases h
      | notv a =>
        rw [chkE.eq_def] at h
        dsimp only at h
        split at h
        · exact r_not (hE _ _ h)
        · cases h
      | andv cs =>
        rw [chkE.eq_def] at h
        dsimp only at h
        split at h
        · obtain ⟨h1, h2⟩ := b2a h
          exact and_E hE h2 (notEmpty h1)
        · cases h
      | orv cs =>
        rw [chkE.eq_def] at h
        dsimp only at h
        split at h
        · obtain ⟨h1, h2⟩ := b2a h
          exact or_E hE h2 (notEmpty h1)
        · cases h
      | cmp op a b =>
        rw [chkE.eq_def] at h
        dsimp only at h
        split at h
        · obtain ⟨h, h4⟩ := b2a h
          obtain ⟨h, h3⟩ := b2a h
          obtain ⟨h1, h2⟩ := b2a h
          rw [← cmEq_ok h1]
          exact r_cmp g.room (hE _ _ h3) (hE _ _ h4) (notSet_ok h2)
        · cases h
      | chain o1 o2 a b c =>
        rw [chkE.eq_def] at h
        dsimp only at h
        split at h
        · obtain ⟨h, h7⟩ := b2a h
          obtain ⟨h, h6⟩ := b2a h
          obtain ⟨h, h5⟩ := b2a h
          obtain ⟨h, h4⟩ := b2a h
          obtain ⟨h, h3⟩ := b2a h
          obtain ⟨h1, h2⟩ := b2a h
          rw [← cmEq_ok h1, ← cmEq_ok h2]
          exact r_chain g.room (hE _ _ h5) (hE _ _ h6) (hE _ _ h7) (marks2 h4) (notSet_ok h3) (notSet_ok h4)
        · cases h
      | ife c a b =>
        rw [chkE.eq_def] at h
        dsimp only at h
        split at h
        · obtain ⟨h, h3⟩ := b2a h
          obtain ⟨h1, h2⟩ := b2a h
          exact r_ife (hT _ _ h1) (hE _ _ h2) (hE _ _ h3)
        · cases h
      | tup cs =>
        rw [chkE.eq_def] at h
        dsimp only at h
        split at h
        · exact r_tup (star_D hE h)
        · cases h
      | lst cs =>
        rw [chkE.eq_def] at h
        dsimp only at h
        split at h
        · exact r_lst (star_D hE h)
        · cases h
      | ix a b =>
        rw [chkE.eq_def] at h
        dsimp only at h
        split at h
        · obtain ⟨h, h3⟩ := b2a h
          obtain ⟨h1, h2⟩ := b2a h
          exact r_ix (by have := g.room.un; omega) (hE _ _ h2) (hE _ _ h3) h1
        · cases h
      | sl a lo hi =>
        rw [chkE.eq_def] at h
        dsimp only at h
        split at h
        · obtain ⟨h, h3⟩ := b2a h
          obtain ⟨h1, h2⟩ := b2a h
          exact r_sl (hE _ _ h1) (opt_O hE h2) (opt_O hE h3)
        · cases h
      | call f cs =>
        rw [chkE.eq_def] at h
        dsimp only at h
        split at h
        · exact call_ok g hE h
        · cases h
      | b1 f a =>
        rw [chkE.eq_def] at h
        dsimp only at h
        split at h
        · obtain ⟨h, h4⟩ := b2a h
          obtain ⟨h, h3⟩ := b2a h
          obtain ⟨h1, h2⟩ := b2a h
          exact b1_ok g (of_decide_eq_true h1) h2 (hE _ _ h3) h4
        · split at h
          · obtain ⟨h, h8⟩ := b2a h
            obtain ⟨h, h7⟩ := b2a h
            obtain ⟨h, h6⟩ := b2a h
            obtain ⟨h, h5⟩ := b2a h
            obtain ⟨h, h4⟩ := b2a h
            obtain ⟨h, h3⟩ := b2a h
            obtain ⟨h1, h2⟩ := b2a h
            have e := of_decide_eq_true h1
            subst e
            have e3 := of_decide_eq_true h3
            subst e3
            exact isiC_ok g h2 h4 h5 h6 (hE _ _ h7) h8
          · obtain ⟨h, h6⟩ := b2a h
            obtain ⟨h, h5⟩ := b2a h
            obtain ⟨h, h4⟩ := b2a h
            obtain ⟨h, h3⟩ := b2a h
            obtain ⟨h1, h2⟩ := b2a h
            have e := of_decide_eq_true h1
            subst e
            exact isi_ok g h2 h3 h4 (hE _ _ h5) h6
          · cases h
        · cases h
      | b2 f a b =>
        rw [chkE.eq_def] at h
        dsimp only at h
        split at h
        · obtain ⟨h, h5⟩ := b2a h
          obtain ⟨h, h4⟩ := b2a h
          obtain ⟨h, h3⟩ := b2a h
          obtain ⟨h1, h2⟩ := b2a h
          split at h1
          · obtain ⟨h1, h8⟩ := b2a h1
            obtain ⟨h6, h7⟩ := b2a h1
            have e := of_decide_eq_true h6
            subst e
            exact gcd_ok g (g.st.gcd h7) (g.gl h8) (hE _ _ h2) h3 (hE _ _ h4) h5
          · obtain ⟨h6, h7⟩ := b2a h1
            exact b2_ok g (of_decide_eq_true h6) h7 (hE _ _ h2) h3 (hE _ _ h4) h5
        · cases h
      | comp kind its tg own conds elt =>
        rw [chkE.eq_def] at h
        dsimp only at h
        split at h
        · have o := comp_ok g (ihE G k) (ihT G k) h
          exact r_comp g.calm g.nd o.it o.bo o.ow o.sl o.tg o.cd o.el o.fs
        · cases h
      | tell t c =>
        rw [chkE.eq_def] at h
        dsimp only at h
        split at h
        · obtain ⟨h1, h2⟩ := b2a h
          exact tell_ok g h1 fun j X' W' g' => ihE G.low j _ X' W' _ _ g' h2
        · cases h
      | dic =>
        rw [chkE.eq_def] at h
        dsimp only at h
        split at h
        · exact r_dic
        · cases h
      | att y i c =>
        rw [chkE.eq_def] at h
        dsimp only at h
        split at h
        · obtain ⟨h, h3⟩ := b2a h
          obtain ⟨h1, h2⟩ := b2a h
          exact att_ok g h1 h2 (hE _ _ h3)
        · cases h
      | meth y f c cs =>
        rw [chkE.eq_def] at h
        dsimp only at h
        split at h
        · obtain ⟨h, h8⟩ := b2a h
          obtain ⟨h, h7⟩ := b2a h
          obtain ⟨h, h6⟩ := b2a h
          obtain ⟨h, h5⟩ := b2a h
          obtain ⟨h, h4⟩ := b2a h
          obtain ⟨h, h3⟩ := b2a h
          obtain ⟨h1, h2⟩ := b2a h
          exact meth_ok g hE h1 h2 h3 h4 h5 (of_decide_eq_true h6) (hE _ _ h7) h8
        · cases h
      | rngv c =>
        rw [chkE.eq_def] at h
        dsimp only at h
        split at h
        · obtain ⟨h, h4⟩ := b2a h
          obtain ⟨h, h3⟩ := b2a h
          obtain ⟨h1, h2⟩ := b2a h
          exact rngv_ok g h1 h2 (hE _ _ h3) h4
        · cases h
      | dct cs =>
        rw [chkE.eq_def] at h
        dsimp only at h
        split at h
        · obtain ⟨h, h2⟩ := b2a h
          obtain ⟨⟨trs, p1, p2⟩, q1, q2⟩ := dct_D hE h
          exact r_dct p1 p2 q1 q2 (fun z => by cases z) (by have := of_decide_eq_true h2; rw [List.length_cons]; omega)
        · cases h
      | lrg1 t a =>
        rw [chkE.eq_def] at h
        exact lrg_ok g hE (cs := [a]) h
      | lrg2 t a b =>
        rw [chkE.eq_def] at h
        exact lrg_ok g hE (cs := [a, b]) h
      | gin kk a i =>
        rw [chkE.eq_def] at h
        dsimp only at h
        split at h
        · obtain ⟨h, h3⟩ := b2a h
          obtain ⟨h1, h2⟩ := b2a h
          obtain ⟨y, p, a, e1, e2, e3, e4, e5, e6⟩ := gd_ok g h2
          subst e1
          rw [← cmEq_ok h1]
          exact r_gin e5 e6 e4 e2 e3 (hE _ _ h3)
        · cases h
      | gix i a =>
        rw [chkE.eq_def] at h
        dsimp only at h
        split at h
        · obtain ⟨h, h3⟩ := b2a h
          obtain ⟨h1, h2⟩ := b2a h
          obtain ⟨y, p, a, e1, e2, e3, e4, e5, e6⟩ := gd_ok g h2
          subst e1
          exact r_gix e6 e4 e2 e3 (hE _ _ h3) h1
        · cases h
      | oddF o c f =>
        rw [chkE.eq_def] at h
        dsimp only at h
        split at h
        · obtain ⟨h, h4⟩ := b2a h
          obtain ⟨h, h3⟩ := b2a h
          obtain ⟨h1, h2⟩ := b2a h
          exact oddF_ok g h1 (hE _ _ h2) h3 h4
        · cases h
      | oddL o c b =>
        rw [chkE.eq_def] at h
        dsimp only at h
        split at h
        · obtain ⟨h, h4⟩ := b2a h
          obtain ⟨h, h3⟩ := b2a h
          obtain ⟨h1, h2⟩ := b2a h
          split at h4
          · obtain ⟨h4, h5⟩ := b2a h4
            exact oddL_ok g h1 (hE _ _ h2) h3 h4 fun j X' W' g' => ihE G.low j _ X' W' _ _ g' h5
          · cases h4
        · cases h
    refine ⟨partE, fun G k E X W c e g h => ?_⟩
    have hE := fun c e => ihE G k E X W c e g
    have hT := fun c e => ihT G k E X W c e g
    rw [chkT.eq_def] at h
    dsimp only at h
    split at h
    · split at h
      · exact t_not (hT _ _ h)
      · cases h
    · split at h
      · obtain ⟨h1, h2⟩ := b2a h
        exact (and_T hT h2 (notEmpty h1)).pt
      · cases h
    · split at h
      · obtain ⟨h1, h2⟩ := b2a h
        exact (or_T hT h2 (notEmpty h1)).pt
      · cases h
    · split at h
      · obtain ⟨h, h4⟩ := b2a h
        obtain ⟨h, h3⟩ := b2a h
        obtain ⟨h1, h2⟩ := b2a h
        rw [← cmEq_ok h1]
        exact t_cmp g.room (hE _ _ h3) (hE _ _ h4) (notSet_ok h2)
      · obtain ⟨h, h3⟩ := b2a h
        obtain ⟨h1, h2⟩ := b2a h
        obtain ⟨y, p, a, e1, e2, e3, e4, e5, e6⟩ := gd_ok g h2
        subst e1
        rw [← cmEq_ok h1]
        exact t_gin e5 e6 e4 e2 e3 (hE _ _ h3)
      · cases h
    · split at h
      · obtain ⟨h, h7⟩ := b2a h
        obtain ⟨h, h6⟩ := b2a h
        obtain ⟨h, h5⟩ := b2a h
        obtain ⟨h, h4⟩ := b2a h
        obtain ⟨h, h3⟩ := b2a h
        obtain ⟨h1, h2⟩ := b2a h
        rw [← cmEq_ok h1, ← cmEq_ok h2]
        exact t_chain g.room (hE _ _ h5) (hE _ _ h6) (hE _ _ h7) (marks2 h4)
      · cases h
    · obtain ⟨h1, h2⟩ := b2a h
      refine t_val (hE _ _ h2) fun whole => ?_
      cases e <;> first | rfl | cases h1
theorem chk_ok (M : Ck) (G : Gx) (xc : Nat → Option XCls) (k : Nat) (n : Nat) : (∀ E X W c e, Cg M G xc k E X W → chkE M n E c e = true → PE X e (tM X.K xc W (ev G c))) ∧
    (∀ E X W c e, Cg M G xc k E X W → chkT M n E c e = true → PT X e (tMT X.K xc W (evT G c))) := ⟨(chk_all M xc n).1 G k, (chk_all M xc n).2 G k⟩
end
end Zw
set_option Elab.async false
set_option linter.all false
set_option maxRecDepth 100000
/-! Zw12: the check of statements, sound. -/
namespace Zw
open PySem PySem.Spec PyProof.Rows L2
/-! ### the check -/
def compSc : Expr → Option (Scope × Pos)
  | .ListComp _ _ s p => some (s, p)
  | .SetComp _ _ s p => some (s, p)
  | .DictComp _ _ _ s p => some (s, p)
  | _ => none
def notComp (e : Expr) : Bool := (compSc e).isNone
def notTup : Expr → Bool
  | .Tuple .. => false
  | _ => true
/-- no local name -/
def outB (sc : Scope) : Expr → Bool
  | .Name x _ => !localB sc x
  | _ => true
def foldT : Expr → Bool
  | .Tuple vs _ _ => vs.all (foldedForSure 8)
  | _ => false
def notName : Expr → Bool
  | .Name .. => false
  | _ => true
def swB (sc : Scope) (x : Str) (l : Nat) (s : Scope) (p : Pos) : Bool := (sc.names.lookup x == some .local) && (l == p.line) && !(s.names.any fun (n, k) => n == x && (k == .local || k == .cell))
def nameOf : Expr → Option (Str × Pos)
  | .Name x p => some (x, p)
  | _ => none
def asgC (M : Ck) (n : Nat) (E : CkE) (c : CE) (v : Expr) : Bool := match c with
  | .comp kind its tg own conds elt => (match v with
    | .ListComp el [⟨tge, it, ifs, 0⟩] scope _ => compB M E (chkE M n) (chkT M n) kind its tg own conds elt el tge it ifs scope
    | _ => false)
  | _ => false
def asgB (M : Ck) (n : Nat) (E : CkE) (i : Nat) (c : CE) (x : Str) (p : Pos) (v : Expr) : Bool := atB E.N i x && locB E.sc x && (E.fn x || localB E.sc x) &&
  match compSc v with
  | none => chkE M n E c v
  | some (s, vp) => (swB E.sc x p.line s vp && asgC M n E c v) || (!swB E.sc x p.line s vp && chkE M n E c v)
def two (M : Ck) (n : Nat) (E : CkE) (i : Nat) (x : Str) : Bool := atB E.N i x && localB E.sc x
def foldB (vs : List Expr) : Bool := !(vs.all (foldedForSure 8)) && !(vs.all (constantsAlone 8))
def parB (M : Ck) (n : Nat) (E : CkE) (is : List Nat) (cs : List CE) (ts vs : List Expr) : Bool := match is, cs, ts, vs with
  | [i, j], [c, d], [.Name x px, .Name y py], [a, b] => two M n E i x && two M n E j y && !(i == j) && !(x == y) && (px.line == py.line) && notStar a && notStar b && foldB [a, b] && chkE M n E c a && chkE M n E d b
  | [i, j, l], [c, d, e], [.Name x px, .Name y py, .Name z pz], [a, b, v] => two M n E i x && two M n E j y && two M n E l z && !(i == j) && !(i == l) && !(j == l) && !(x == y) && !(x == z) && !(y == z) && (px.line == py.line) && (px.line == pz.line) &&
    notStar a && notStar b && notStar v && foldB [a, b, v] && chkE M n E c a && chkE M n E d b && chkE M n E e v
  | _, _, _, _ => false
def varB (E : CkE) (i : Nat) (x : Str) : Bool := atB E.N i x && visB E.sc x && okName x
mutual
def chkS (M : Ck) : Nat → CkE → CS → Stmt → Bool
  | 0, _, _, _ => false
  | n + 1, E, c, st => match c with
    | .pass => (match st with
      | .Pass _ => true
      | _ => false)
    | .never => true
    | .raise c => (match st with
      | .Raise (some (.Call (.Name x _) [.Constant (.str _) _ _] [] _)) none _ => atB M.clm c x && glB E.sc x && okName x && decide (M.attr c = none)
      | _ => false)
    | .raise1 c ce => (match st with
      | .Raise (some (.Call (.Name x _) [e] [] _)) none _ => atB M.clm c x && glB E.sc x && okName x && (M.attr c).isSome && notStar e && chkE M n E ce e
      | _ => false)
    | .expr c => (match st with
      | .Expr e _ => chkE M n E c e && notComp e
      | _ => false)
    | .asg i c => (match st with
      | .Assign [.Name x p] v _ => asgB M n E i c x p v
      | _ => false)
    | .asgT t c => (match st with
      | .Assign [.Tuple es k p] v _ => chkG E t (.Tuple es k p) && chkE M n E c v && notComp v && (notTup v || es.any (outB E.sc) || foldT v)
      | _ => false)
    | .par is cs => (match st with
      | .Assign [.Tuple ts _ _] (.Tuple vs _ _) _ => parB M n E is cs ts vs
      | _ => false)
    | .aug i op c => (match st with
      | .AugAssign (.Name x _) o v _ => augOk op && opEq (opOf op) o && atB E.N i x && locB E.sc x && (E.fn x || localB E.sc x) && chkE M n E c v
      | _ => false)
    | .setIx i ck c => (match st with
      | .Assign [.Subscript (.Name x _) k _] v _ => varB E i x && notSlice k && chkE M n E ck k && chkE M n E c v && notComp v
      | _ => false)
    | .app i c => (match st with
      | .Expr (.Call (.Attribute (.Name x _) m ap) [a] [] cp) _ => varB E i x && strEq m "append" && (ap.endLine == cp.line) && notStar a && chkE M n E c a
      | _ => false)
    | .ext i c => (match st with
      | .Expr (.Call (.Attribute (.Name x _) m ap) [a] [] cp) _ => varB E i x && strEq m "extend" && (ap.endLine == cp.line) && notStar a && chkE M n E c a
      | _ => false)
    | .ret c => (match st with
      | .Return (some e) _ => (match c with
        | .var i => (match e with
          | .Name x _ => varB E i x
          | _ => false)
        | c => chkE M n E c e)
      | _ => false)
    | .retN => (match st with
      | .Return none _ => true
      | _ => false)
    | .ite c a b => (match st with
      | .If t x y _ => chkT M n E c t && chkSs M n E a x && chkSs M n E b y
      | _ => false)
    | .for_ cs kind its tg body => (match st with
      | .For t it bd [] _ => itB M E (chkE M n E) t kind its it && chkG E tg t && chkSs M n E body bd
      | _ => false)
    | .while_ c body => (match st with
      | .While t bd [] _ => chkT M n E c t && chkSs M n E body bd
      | _ => false)
    | .brk => (match st with
      | .Break _ => true
      | _ => false)
    | .cont => (match st with
      | .Continue _ => true
      | _ => false)
    | .frz _ => false
    | .mv _ => false
    | .newP i c args is es => (match st with
      | .Assign [.Name x _] (.Call (.Name y _) (a :: as) [] _) _ => is.isEmpty && es.isEmpty && atB E.N i x && locB E.sc x && (E.fn x || localB E.sc x) && newB M E c y && (a :: as).all notStar && allB (chkE M n E) args (a :: as)
      | .Assign [.Tuple ts _ _] (.Tuple (.Call (.Name y _) (a :: as) [] _ :: vs) _ _) _ => chkGs E ((i :: is).map .nm) ts && decide (is.length < 1000) && decide (3 < ts.length) && newB M E c y && (a :: as).all notStar && allB (chkE M n E) args (a :: as) && vs.all notStar && allB (chkE M n E) es vs
      | _ => false)
    | .retO w es => (match st with
      | .Return (some (.Tuple vs _ _)) _ => w && vs.all notStar && allB (chkE M n E) es vs
      | .Return (some e) _ => !w && (match es with
        | [c] => chkE M n E c e
        | _ => false)
      | _ => false)
    | .augAtt i x f op c => (match st with
      | .AugAssign (.Attribute (.Name z _) fn _) o v _ => augOk op && opEq (opOf op) o && varB E i z && slB M x f fn && chkE M n E c v
      | _ => false)
    | .unpS i j c => (match st with
      | .Assign [.Tuple [.Name x _, .Starred (.Name y _) _] _ _] v _ => atB E.N i x && locB E.sc x && (E.fn x || localB E.sc x) && atB E.N j y && locB E.sc y && (E.fn y || localB E.sc y) && chkE M n E c v && notComp v && notTup v
      | _ => false)
    | .swp i k1 k2 c => (match st with
      | .Assign [.Tuple [.Subscript (.Name x p1) e1 q1, .Subscript (.Name y p2) e2 q2] kt pt] v _ => varB E i x && varB E i y && notSlice e1 && notSlice e2 && chkE M n E k1 e1 && chkE M n E k2 e2 && chkE M n E c v && notComp v && (notTup v || ([.Subscript (.Name x p1) e1 q1, .Subscript (.Name y p2) e2 q2] : List Expr).any (outB E.sc) || foldT v)
      | _ => false)
def chkSs (M : Ck) : Nat → CkE → List CS → List Stmt → Bool
  | 0, _, _, _ => false
  | n + 1, E, cs, sts => match cs with
    | [] => sts.isEmpty
    | c :: cs => (match c with
      | .frz _ => chkSs M n E cs sts
      | .mv _ => chkSs M n E cs sts
      | c => (match sts with
        | [] => false
        | st :: sts => chkS M n E c st && chkSs M n E cs sts))
end
section
variable {M : Ck} {G : Gx} {xc : Nat → Option XCls} {k : Nat} {E : CkE} {X : Cx} {W : WX}
theorem blockKind_fn {env : PySem.Env} (h : env.scope.kind = .function) : env.blockKind = .function := by unfold Env.blockKind; rw [h]; rfl
theorem notComp_sw {e : Expr} {t : Option Expr} {l : Nat} {env : PySem.Env} (h : notComp e = true) : swapsWith e t l env = pure false := by
  cases e <;> first | rfl | cases h
theorem sw_name {v : Expr} {x : Str} {p : Pos} {l : Nat} {env : PySem.Env} {s : Scope} {vp : Pos} (hk : env.scope.kind = .function) (h : compSc v = some (s, vp)) : swapsWith v (some (.Name x p)) l env = pure (swB env.scope x p.line s vp) := by
  have hb := blockKind_fn hk
  cases v with
  | ListComp _ _ s' p' => cases h; unfold swapsWith swB; simp [hb, Env.kindOf]; rfl
  | SetComp _ _ s' p' => cases h; unfold swapsWith swB; simp [hb, Env.kindOf]; rfl
  | DictComp _ _ _ s' p' => cases h; unfold swapsWith swB; simp [hb, Env.kindOf]; rfl
  | _ => cases h
theorem swap_eq {env : PySem.Env} {ts vs : List Expr} {kt k2 : Nat} {pt pt2 : Pos} : ∃ (F : Expr → Bool) (N : Nat → Expr → Option Str), (∀ e, notStar e = true → F e = false) ∧ (∀ l x p, N l (.Name x p) = if env.kindOf x == some .local && p.line == l then some x else none) ∧
    (env.blockKind = .function → (ts.length == 2 || ts.length == 3) = true → vs.length = ts.length → vs.any F = false → ∀ names, ts.filterMap (N ((ts.head?.map (·.pos.line)).getD 0)) = names → names.length = ts.length → names.eraseDups.length = names.length →
      vs.all (foldedForSure 8) = false → vs.all (constantsAlone 8) = false → swappedStores [.Tuple ts kt pt] (.Tuple vs k2 pt2) env = pure (some names)) := by
  refine ⟨fun | .Starred .. => true | _ => false, fun l e => match e with | .Name id pos => if env.kindOf id == some .local && pos.line == l then some id else none | _ => none, ?_, fun _ _ _ => rfl, ?_⟩
  · intro e h
    cases e <;> first | rfl | cases h
  · intro h1 h2 h3 h4 names h5 h6 h7 h8 h9
    unfold swappedStores
    dsimp only
    rw [h1, h3, h2]
    simp only [bne_self_eq_false, Bool.not_true, Bool.or_false, Bool.false_eq_true, if_false, h8, h9]
    have key : ∀ (b : Bool) (n : List Str), b = false → n = names → (if b = true then (pure none : Sem (Option (List Str))) else if (n.length != ts.length || n.eraseDups.length != n.length) = true then (pure none : Sem (Option (List Str))) else pure (some n)) = pure (some names) := fun b n e0 e => by
      subst e e0
      rw [h6, h7, h6]
      simp
    exact key _ _ h4 h5
theorem foldB_ok {vs : List Expr} (h : foldB vs = true) : vs.all (foldedForSure 8) = false ∧ vs.all (constantsAlone 8) = false := by
  obtain ⟨f1, f2⟩ := b2a h
  constructor
  · cases q : vs.all (foldedForSure 8) with | false => rfl | true => rw [q] at f1; cases f1
  · cases q : vs.all (constantsAlone 8) with | false => rfl | true => rw [q] at f2; cases f2
theorem beq_sym {x y : Str} (h : (x == y) = false) : (y == x) = false := by
  cases q : y == x with
  | false => rfl
  | true =>
    rw [beq_iff_eq.mp q] at h
    simp at h
theorem swapped2 {env : PySem.Env} {x y : Str} {px py pt pt2 : Pos} {kt k2 : Nat} {a b : Expr} (hk : env.scope.kind = .function) (hx : env.scope.names.lookup x = some .local) (hy : env.scope.names.lookup y = some .local) (hxy : (x == y) = false) (hl : (px.line == py.line) = true)
    (ha : notStar a = true) (hb : notStar b = true) (hf : foldB [a, b] = true) : swappedStores [.Tuple [.Name x px, .Name y py] kt pt] (.Tuple [a, b] k2 pt2) env = pure (some [x, y]) := by
  obtain ⟨F, N, e1, e2, e3⟩ := swap_eq (env := env) (ts := [.Name x px, .Name y py]) (vs := [a, b]) (kt := kt) (k2 := k2) (pt := pt) (pt2 := pt2)
  refine e3 (blockKind_fn hk) rfl rfl (by simp [e1 a ha, e1 b hb]) [x, y] ?_ rfl ?_ (foldB_ok hf).1 (foldB_ok hf).2
  · have l : py.line = px.line := (beq_iff_eq.mp hl).symm
    simp [List.filterMap_cons, e2, Expr.pos, Env.kindOf, hx, hy, l]
  · simp [List.eraseDups, List.eraseDupsBy, List.eraseDupsBy.loop, hxy, beq_sym hxy]
theorem swapped3 {env : PySem.Env} {x y z : Str} {px py pz pt pt2 : Pos} {kt k2 : Nat} {a b c : Expr} (hk : env.scope.kind = .function) (hx : env.scope.names.lookup x = some .local) (hy : env.scope.names.lookup y = some .local) (hz : env.scope.names.lookup z = some .local)
    (hxy : (x == y) = false) (hxz : (x == z) = false) (hyz : (y == z) = false) (hl : (px.line == py.line) = true) (hl2 : (px.line == pz.line) = true)
    (ha : notStar a = true) (hb : notStar b = true) (hc : notStar c = true) (hf : foldB [a, b, c] = true) : swappedStores [.Tuple [.Name x px, .Name y py, .Name z pz] kt pt] (.Tuple [a, b, c] k2 pt2) env = pure (some [x, y, z]) := by
  obtain ⟨F, N, e1, e2, e3⟩ := swap_eq (env := env) (ts := [.Name x px, .Name y py, .Name z pz]) (vs := [a, b, c]) (kt := kt) (k2 := k2) (pt := pt) (pt2 := pt2)
  refine e3 (blockKind_fn hk) rfl rfl (by simp [e1 a ha, e1 b hb, e1 c hc]) [x, y, z] ?_ rfl ?_ (foldB_ok hf).1 (foldB_ok hf).2
  · have l : py.line = px.line := (beq_iff_eq.mp hl).symm
    have l2 : pz.line = px.line := (beq_iff_eq.mp hl2).symm
    simp [List.filterMap_cons, e2, Expr.pos, Env.kindOf, hx, hy, hz, l, l2]
  · simp [List.eraseDups, List.eraseDupsBy, List.eraseDupsBy.loop, hxy, hxz, hyz, beq_sym hxy, beq_sym hxz, beq_sym hyz]
/-! ### soundness -/
theorem Cg.kindX (g : Cg M G xc k E X W) : X.env.scope.kind = .function := by rw [g.sc]; exact g.kind
theorem Cg.two (g : Cg M G xc k E X W) {n i : Nat} {x : Str} (h : two M n E i x = true) : X.N[i]? = some x ∧ X.env.scope.names.lookup x = some .local := by
  obtain ⟨h1, h2⟩ := b2a h
  exact ⟨g.ix h1, by rw [g.sc]; exact localB_ok h2⟩
theorem Cg.var (g : Cg M G xc k E X W) {i : Nat} {x : Str} {p : Pos} (h : varB E i x = true) : PE X (.Name x p) (tVar i) := by
  obtain ⟨h, h3⟩ := b2a h
  obtain ⟨h1, h2⟩ := b2a h
  exact pe_var (g.ix h1) (g.vis h2) (okName_ok h3).1 (okName_ok h3).2
theorem s_raise0 (g : Cg M G xc k E X W) {c : Nat} {x m : Str} {j : Nat} {p p2 p3 pos : Pos} (hx : M.clm[c]? = some x) (ha : M.attr c = none) (hg : L2.Gl X x) (hd : (x == ("__debug__" : Str)) = false) :
    PS X (.Raise (some (.Call (.Name x p) [.Constant (.str m) j p2] [] p3)) none pos) (fun _ σ H => W (.ref (He.ga X.K x)) none σ H) ∧ xc c = some ⟨.ref (He.ga X.K x), none⟩ := by
  obtain ⟨C, e⟩ := g.st.cls c x hx
  rw [ha] at C e
  have C : ClsOk X.K X.mg x := C
  exact ⟨ps_raise g.calm g.tk (pmk_own PySem.F.excBase_ValueError C.exc C.at_ C.kp (raises_own C.sb C.ty) hg hd), e⟩
theorem s_raise (g : Cg M G xc k E X W) {c : Nat} {x m : Str} {j : Nat} {p p2 p3 pos : Pos} (hx : M.clm[c]? = some x) (ha : M.attr c = none) (hg : L2.Gl X x) (hd : (x == ("__debug__" : Str)) = false) :
    PS X (.Raise (some (.Call (.Name x p) [.Constant (.str m) j p2] [] p3)) none pos) (tMS X.K xc W (exec G (.raise c))) := by
  obtain ⟨r, e⟩ := s_raise0 g (m := m) (j := j) (p := p) (p2 := p2) (p3 := p3) (pos := pos) hx ha hg hd
  refine PS.weak r fun D σ H ⟨F0, μ0, H0, F, μ, S, ρ, s, h⟩ => ?_
  rw [exec] at h
  exact h F μ H σ _ _ s ⟨_, e, rfl, trivial⟩
theorem s_raise1 (g : Cg M G xc k E X W) {c : Nat} {ce : CE} {x : Str} {e : Expr} {p p3 pos : Pos} (hx : M.clm[c]? = some x) (ha : (M.attr c).isSome = true) (hg : L2.Gl X x) (hd : (x == ("__debug__" : Str)) = false) (he : PE X e (tM X.K xc W (ev G ce))) (hs : notStar e = true) :
    PS X (.Raise (some (.Call (.Name x p) [e] [] p3)) none pos) (tMS X.K xc W (exec G (.raise1 c ce))) := by
  obtain ⟨C, ex⟩ := g.st.cls c x hx
  obtain ⟨f, ef⟩ := Option.isSome_iff_exists.mp ha
  rw [ef] at C ex
  have C : ClsA X.prog X.K X.mg x f := C
  refine PS.weak (ps_raise g.calm g.tk (C.made X _ e p p3 k rfl rfl rfl g.room hg hd (pa_cons he pa_nil (starEach_plain hs)) hs)) fun D σ H ⟨F0, μ0, H0, F, μ, S, ρ, s, h⟩ => ⟨F, μ, S, ρ, s.rel, s.er, toEs s (by rw [exec] at h; exact h) fun F1 H1 v b S1 e1 s1 bv h1 => ?_⟩
  refine ⟨v, rfl, fun d hd => ?_⟩
  cases q : b.frz with
  | none => rw [q] at h1; exact h1.elim
  | some d0 =>
    rw [q] at h1
    have n1 : NT (.xd [(f, v)]) := fun _ z => by cases z
    exact h1 F1 μ _ σ _ _ (s1.step (Ext.newOwn hd n1) (s1.rel.newOwn hd)) ⟨_, ex, rfl, d, v, rfl, upd_same, frz_still q bv⟩
theorem ne_of {i j : Nat} (h : (!(i == j)) = true) : i ≠ j := fun e => by rw [e] at h; simp at h
theorem neS {x y : Str} (h : (!(x == y)) = true) : (x == y) = false := by
  cases q : x == y with
  | false => rfl
  | true => rw [q] at h; cases h
theorem par_ok (g : Cg M G xc k E X W) {n : Nat} {is : List Nat} {cs : List CE} {ts vs : List Expr} {kt k2 : Nat} {pt p2 pos : Pos} (h : parB M n E is cs ts vs = true) :
    PS X (.Assign [.Tuple ts kt pt] (.Tuple vs k2 p2) pos) (tMS X.K xc W (exec G (.par is cs))) := by
  have hE := fun c e => (chk_ok M G xc k n).1 E X W c e g
  unfold parB at h
  split at h
  · obtain ⟨h, h10⟩ := b2a h
    obtain ⟨h, h9⟩ := b2a h
    obtain ⟨h, h8⟩ := b2a h
    obtain ⟨h, h7⟩ := b2a h
    obtain ⟨h, h6⟩ := b2a h
    obtain ⟨h, h5⟩ := b2a h
    obtain ⟨h, h4⟩ := b2a h
    obtain ⟨h, h3⟩ := b2a h
    obtain ⟨h1, h2⟩ := b2a h
    obtain ⟨a1, a2⟩ := g.two h1
    obtain ⟨b1, b2⟩ := g.two h2
    exact s_par2 g.calm g.nd a1 b1 (ne_of h3) a2 b2 (g_cons (hE _ _ h9) (g_cons (hE _ _ h10) g_nil h7) h6) (swapped2 g.kindX a2 b2 (neS h4) h5 h6 h7 h8) rfl
  · obtain ⟨h, h18⟩ := b2a h
    obtain ⟨h, h17⟩ := b2a h
    obtain ⟨h, h16⟩ := b2a h
    obtain ⟨h, h15⟩ := b2a h
    obtain ⟨h, h14⟩ := b2a h
    obtain ⟨h, h13⟩ := b2a h
    obtain ⟨h, h12⟩ := b2a h
    obtain ⟨h, h11⟩ := b2a h
    obtain ⟨h, h10⟩ := b2a h
    obtain ⟨h, h9⟩ := b2a h
    obtain ⟨h, h8⟩ := b2a h
    obtain ⟨h, h7⟩ := b2a h
    obtain ⟨h, h6⟩ := b2a h
    obtain ⟨h, h5⟩ := b2a h
    obtain ⟨h, h4⟩ := b2a h
    obtain ⟨h, h3⟩ := b2a h
    obtain ⟨h1, h2⟩ := b2a h
    obtain ⟨a1, a2⟩ := g.two h1
    obtain ⟨b1, b2⟩ := g.two h2
    obtain ⟨c1, c2⟩ := g.two h3
    exact s_par3 g.calm g.nd a1 b1 c1 (ne_of h4) (ne_of h5) (ne_of h6) a2 b2 c2 (g_cons (hE _ _ h16) (g_cons (hE _ _ h17) (g_cons (hE _ _ h18) g_nil h14) h13) h12)
      (swapped3 g.kindX a2 b2 c2 (neS h7) (neS h8) (neS h9) h10 h11 h12 h13 h14 h15) rfl
  · cases h
theorem asg_ok (g : Cg M G xc k E X W) {n i : Nat} {c : CE} {x : Str} {p pos : Pos} {v : Expr} (h : asgB M n E i c x p v = true) : PS X (.Assign [.Name x p] v pos) (tMS X.K xc W (exec G (.asg i c))) := by
  have hE := fun c e => (chk_ok M G xc k n).1 E X W c e g
  obtain ⟨h, h4⟩ := b2a h
  obtain ⟨h, h3⟩ := b2a h
  obtain ⟨h1, h2⟩ := b2a h
  have hi := g.ix h1
  have hl := g.loc h2
  have hf := g.hf h3
  cases q : compSc v with
  | none =>
    rw [q] at h4
    exact s_asg g.nd hi hl (hE _ _ h4) (notComp_sw (by unfold notComp; rw [q]; rfl)) hf
  | some sp =>
    obtain ⟨s, vp⟩ := sp
    rw [q] at h4
    have hsw := fun l => sw_name (x := x) (p := p) (l := l) g.kindX q
    rw [g.sc] at hsw
    rcases Bool.or_eq_true_iff.mp h4 with h4 | h4
    · obtain ⟨q2, h4⟩ := b2a h4
      rw [q2] at hsw
      have hyl : X.env.scope.names.lookup x = some .local := by
        obtain ⟨q3, _⟩ := b2a q2
        obtain ⟨q4, _⟩ := b2a q3
        rw [g.sc]
        exact beq_iff_eq.mp q4
      unfold asgC at h4
      split at h4
      · split at h4
        · have o := comp_ok g (chk_ok M G xc k n).1 (chk_ok M G xc k n).2 h4
          refine PS.weak (ps_setLc g.calm g.nd hi hyl (hsw _) o.it o.bo o.tg o.cd o.el o.fs) fun D σ H z => ?_
          rw [o.ow]
          exact comp_rd o.sl (asg_rd z)
        · cases h4
      · cases h4
    · obtain ⟨q2, h4⟩ := b2a h4
      have q2 : swB E.sc x p.line s vp = false := by
        cases q3 : swB E.sc x p.line s vp with
        | false => rfl
        | true => rw [q3] at q2; cases q2
      rw [q2] at hsw
      exact s_asg g.nd hi hl (hE _ _ h4) (hsw _) hf
theorem sole_sw {e t : Expr} {l : Nat} {env : PySem.Env} (h : notComp e = true) : swapsWithSole [t] e l env = pure false := notComp_sw (t := some t) (l := l) (env := env) h
theorem notTup_sw {tg v : Expr} {env : PySem.Env} (h : notTup v = true) : swappedStores [tg] v env = pure none := by
  cases v <;> first | (cases tg <;> rfl) | cases h
theorem filter_short {N : Expr → Option Str} {q : Expr → Bool} (hN : ∀ e, q e = true → N e = none) : ∀ {ts : List Expr}, ts.any q = true → (ts.filterMap N).length < ts.length
  | [], h => by cases h
  | t :: ts, h => by
    rw [List.filterMap_cons]
    cases z : q t with
    | true =>
      rw [hN t z]
      exact Nat.lt_succ_of_le (List.length_filterMap_le _ _)
    | false =>
      rw [List.any_cons, z, Bool.false_or] at h
      have ih := filter_short hN h
      cases N t with
      | none => exact Nat.lt_succ_of_lt ih
      | some y => exact Nat.succ_lt_succ ih
theorem notLocal_kind {env : PySem.Env} {sc : Scope} {x : Str} (hs : env.scope = sc) (h : localB sc x = false) : (env.kindOf x == some .local) = false := by
  cases q : env.kindOf x == some .local with
  | false => rfl
  | true =>
    have e : env.scope.names.lookup x = some .local := beq_iff_eq.mp q
    rw [hs] at e
    unfold localB at h
    rw [e] at h
    cases h
theorem swap_none {ts vs : List Expr} {k k2 : Nat} {p p2 : Pos} {env : PySem.Env} {sc : Scope} (hs : env.scope = sc) (h : ts.any (outB sc) = true) : swappedStores [.Tuple ts k p] (.Tuple vs k2 p2) env = pure none := by
  unfold swappedStores
  dsimp only
  split
  · rfl
  · split
    · rfl
    · split
      · rfl
      · rename_i h3
        refine absurd ?_ h3
        rw [Bool.or_eq_true]
        refine .inl (bne_iff_ne.mpr (Nat.ne_of_lt (filter_short (q := outB sc) (fun e he => ?_) h)))
        cases e with
        | Name x px =>
          have z : localB sc x = false := by
            cases q : localB sc x with
            | false => rfl
            | true =>
              have he : (!localB sc x) = true := he
              rw [q] at he
              cases he
          simp [notLocal_kind hs z]
        | _ => rfl
theorem swap_fold {ts vs : List Expr} {k k2 : Nat} {p p2 : Pos} {env : PySem.Env} (h : vs.all (foldedForSure 8) = true) : swappedStores [.Tuple ts k p] (.Tuple vs k2 p2) env = pure none := by
  unfold swappedStores
  dsimp only
  split
  · rfl
  · split
    · rfl
    · split
      · rfl
      · first | rfl | (rw [if_pos h]; rfl)
theorem tup_sw {es : List Expr} {k : Nat} {p : Pos} {v : Expr} {env : PySem.Env} {sc : Scope} (hs : env.scope = sc) (h : (notTup v || es.any (outB sc) || foldT v) = true) : swappedStores [.Tuple es k p] v env = pure none := by
  rcases Bool.or_eq_true_iff.mp h with h | h
  · rcases Bool.or_eq_true_iff.mp h with h | h
    · exact notTup_sw h
    · cases v with
      | Tuple vs k2 p2 => exact swap_none hs h
      | _ => exact notTup_sw rfl
  · cases v with
    | Tuple vs k2 p2 => exact swap_fold h
    | _ => cases h
theorem assign_sub {o k : Expr} {p2 : Pos} {env : PySem.Env} (h : notSlice k = true) (v : Value) : assign (.Subscript o k p2) env v = (do
      let ov ← holding [v] (eval o env)
      let iv ← holding [v, ov] (eval k env)
      standAt p2
      holding [v, ov, iv] (setItem ov iv v)
      release [v, ov, iv] []) := by
  cases k <;> first | rfl | cases h
theorem swap_long {ts vs : List Expr} {k k2 : Nat} {p p2 : Pos} {env : PySem.Env} (h : 3 < ts.length) : swappedStores [.Tuple ts k p] (.Tuple vs k2 p2) env = pure none := by
  unfold swappedStores
  dsimp only
  have h2 : (ts.length == 2) = false := by simp; omega
  have h3 : (ts.length == 3) = false := by simp; omega
  rw [if_pos (by rw [h2, h3]; rfl)]
theorem new_ok' (g : Cg M G xc k E X W) {n c : Nat} {y : Str} {args : List CE} {a : Expr} {as : List Expr} {p pos : Pos} {z : Str} {Fo : List B → Store → R (List (Bool × D))} (h1 : newB M E c y = true) (h2 : (a :: as).all notStar = true) (h3 : allB (chkE M n E) args (a :: as) = true) (ho : G.ob c = some (z, Fo)) :
    z = y ∧ PE X (.Call (.Name y p) (a :: as) [] pos) (tNew X.K xc W y fun ρ s => (evl G args ρ s).bind Fo) := by
  have hE := fun c e => (chk_ok M G xc k n).1 E X W c e g
  obtain ⟨h1, a3⟩ := b2a h1
  obtain ⟨a1, a2⟩ := b2a h1
  obtain ⟨e, ad, b1, b2, nc⟩ := g.st.obs c y (of_decide_eq_true a1) z Fo ho
  subst e
  exact ⟨rfl, pe_newC nc g.room g.gd g.tk (g.gl a2) b1 b2 (all_L hE h3 h2) (okName_ok a3).1 h2⟩
theorem all_G (g : Cg M G xc k E X W) {n : Nat} : ∀ {cs : List CE} {vs : List Expr}, allB (chkE M n E) cs vs = true → vs.all notStar = true → PA X vs (tMG X.K xc W (evg G cs))
  | [], [], _, _ => g_nil
  | [], _ :: _, h, _ => by cases h
  | _ :: _, [], h, _ => by cases h
  | c :: cs, v :: vs, h, hs => by
    obtain ⟨h1, h2⟩ := b2a (show (chkE M n E c v && allB (chkE M n E) cs vs) = true from h)
    rw [List.all_cons] at hs
    obtain ⟨s1, s2⟩ := b2a hs
    exact g_cons ((chk_ok M G xc k n).1 E X W c v g h1) (all_G g h2 s2) s1
theorem slB_ok (g : Cg M G xc k E X W) {y f : Str} {i : Nat} (h : slB M y i f = true) : ∃ p, SlX.Slot1 X.K (He.ga X.K y) f p i := by
  obtain ⟨q, hq, eq⟩ := List.any_eq_true.mp h
  obtain ⟨e1, e2⟩ := b2a eq
  have e1 := of_decide_eq_true e1
  have o := g.st.slc q hq
  rw [e1] at o
  exact o.slot i f (of_decide_eq_true e2)
theorem few_ok {e : Expr} {cpos : Pos} {env : PySem.Env} (h : notStar e = true) : ((backTo cpos (starEach [e] env)).all (fun x => !x.1) && (backToKw cpos (keywordEach [] env)).all (fun x => x.1.isSome)
      && decide ([e].length + ([] : List Keyword).length + (if ([] : List Keyword).isEmpty then 0 else 1) < 30)) = true := by
  rw [starEach_plain h]
  rfl
theorem chkS_ok (M : Ck) (G : Gx) (xc : Nat → Option XCls) (k : Nat) (E : CkE) (X : Cx) (W : WX) (g : Cg M G xc k E X W) (po : PassesOwn (model X.prog X.w) X.A X.env X.xe) : ∀ n, (∀ c st, chkS M n E c st = true → PS X st (tMS X.K xc W (exec G c))) ∧
    (∀ cs sts, chkSs M n E cs sts = true → PSs X sts (tMS X.K xc W (execs G cs))) := by
  intro n
  induction n with
  | zero =>
    refine ⟨fun c e h => ?_, fun c e h => ?_⟩
    · rw [chkS.eq_def] at h; exact absurd h Bool.false_ne_true
    · rw [chkSs.eq_def] at h; exact absurd h Bool.false_ne_true
  | succ n ih =>
    obtain ⟨ihS, ihSs⟩ := ih
    have hE := fun c e => (chk_ok M G xc k n).1 E X W c e g
    have hT := fun c e => (chk_ok M G xc k n).2 E X W c e g
    have partS : ∀ c st, chkS M (n + 1) E c st = true → PS X st (tMS X.K xc W (exec G c)) := by
      intro c st h
      cases c with
      | pass =>
        rw [chkS.eq_def] at h; dsimp only at h; split at h
        · exact s_pass
        · cases h
      | never => exact s_never
      | expr c =>
        rw [chkS.eq_def] at h; dsimp only at h; split at h
        · obtain ⟨h1, h2⟩ := b2a h
          exact s_expr (hE _ _ h1) (notComp_sw h2)
        · cases h
      | asg i c =>
        rw [chkS.eq_def] at h; dsimp only at h; split at h
        · exact asg_ok g h
        · cases h
      | asgT t c =>
        rw [chkS.eq_def] at h; dsimp only at h; split at h
        · obtain ⟨h, h4⟩ := b2a h
          obtain ⟨h, h3⟩ := b2a h
          obtain ⟨h1, h2⟩ := b2a h
          exact s_asgT (hE _ _ h2) (chkG_ok g _ _ h1) (sole_sw h3) (tup_sw g.sc h4) rfl
        · cases h
      | par is cs =>
        rw [chkS.eq_def] at h; dsimp only at h; split at h
        · exact par_ok g h
        · cases h
      | raise c =>
        rw [chkS.eq_def] at h; dsimp only at h; split at h
        · obtain ⟨h, h4⟩ := b2a h
          obtain ⟨h, h3⟩ := b2a h
          obtain ⟨h1, h2⟩ := b2a h
          exact s_raise g (of_decide_eq_true h1) (of_decide_eq_true h4) (g.gl h2) (okName_ok h3).1
        · cases h
      | raise1 c ce =>
        rw [chkS.eq_def] at h; dsimp only at h; split at h
        · obtain ⟨h, h6⟩ := b2a h
          obtain ⟨h, h5⟩ := b2a h
          obtain ⟨h, h4⟩ := b2a h
          obtain ⟨h, h3⟩ := b2a h
          obtain ⟨h1, h2⟩ := b2a h
          exact s_raise1 g (of_decide_eq_true h1) h4 (g.gl h2) (okName_ok h3).1 (hE _ _ h6) h5
        · cases h
      | aug i op c =>
        rw [chkS.eq_def] at h; dsimp only at h; split at h
        · obtain ⟨h, h6⟩ := b2a h
          obtain ⟨h, h5⟩ := b2a h
          obtain ⟨h, h4⟩ := b2a h
          obtain ⟨h, h3⟩ := b2a h
          obtain ⟨h1, h2⟩ := b2a h
          rw [← opEq_ok h2]
          exact s_aug h1 g.nd (g.ix h3) (g.loc h4) (hE _ _ h6) (g.hf h5)
        · cases h
      | setIx i ck c =>
        rw [chkS.eq_def] at h; dsimp only at h; split at h
        · obtain ⟨h, h5⟩ := b2a h
          obtain ⟨h, h4⟩ := b2a h
          obtain ⟨h, h3⟩ := b2a h
          obtain ⟨h1, h2⟩ := b2a h
          exact s_setIx (g.var h1) (hE _ _ h3) (hE _ _ h4) (sole_sw h5) rfl rfl (assign_sub h2)
        · cases h
      | swp i k1 k2 c =>
        rw [chkS.eq_def] at h; dsimp only at h; split at h
        · obtain ⟨h, h9⟩ := b2a h
          obtain ⟨h, h8⟩ := b2a h
          obtain ⟨h, h7⟩ := b2a h
          obtain ⟨h, h6⟩ := b2a h
          obtain ⟨h, h5⟩ := b2a h
          obtain ⟨h, h4⟩ := b2a h
          obtain ⟨h, h3⟩ := b2a h
          obtain ⟨h1, h2⟩ := b2a h
          exact s_swp g.calm (g.var h1) (g.var h2) (hE _ _ h5) (hE _ _ h6) (hE _ _ h7) (sole_sw h8) (tup_sw g.sc h9) (assign_sub h3) (assign_sub h4)
        · cases h
      | app i c =>
        rw [chkS.eq_def] at h; dsimp only at h; split at h
        · obtain ⟨h, h5⟩ := b2a h
          obtain ⟨h, h4⟩ := b2a h
          obtain ⟨h, h3⟩ := b2a h
          obtain ⟨h1, h2⟩ := b2a h
          have e := of_decide_eq_true h2
          subst e
          exact s_app (g.var h1) (hE _ _ h5) h4 rfl h3 (few_ok h4) rfl
        · cases h
      | ext i c =>
        rw [chkS.eq_def] at h; dsimp only at h; split at h
        · obtain ⟨h, h5⟩ := b2a h
          obtain ⟨h, h4⟩ := b2a h
          obtain ⟨h, h3⟩ := b2a h
          obtain ⟨h1, h2⟩ := b2a h
          have e := of_decide_eq_true h2
          subst e
          exact s_ext (g.var h1) (hE _ _ h5) h4 rfl h3 (few_ok h4) rfl
        · cases h
      | ret c =>
        rw [chkS.eq_def] at h; dsimp only at h; split at h
        · rename_i e _
          by_cases hv : ∃ i, c = .var i
          · obtain ⟨i, rfl⟩ := hv
            dsimp only at h
            split at h
            · exact s_retV (g.var h)
            · cases h
          · have nv : ∀ i, c ≠ .var i := fun i e => hv ⟨i, e⟩
            have h : chkE M n E c e = true := by
              cases c with
              | var i => exact absurd rfl (nv i)
              | _ => exact h
            exact s_ret nv (hE _ _ h)
        · cases h
      | retN =>
        rw [chkS.eq_def] at h; dsimp only at h; split at h
        · exact s_retN
        · cases h
      | ite c a b =>
        rw [chkS.eq_def] at h; dsimp only at h; split at h
        · obtain ⟨h, h3⟩ := b2a h
          obtain ⟨h1, h2⟩ := b2a h
          exact s_ite (hT _ _ h1) (ihSs _ _ h2) (ihSs _ _ h3)
        · cases h
      | for_ cs kind its tg body =>
        rw [chkS.eq_def] at h; dsimp only at h; split at h
        · obtain ⟨h, h3⟩ := b2a h
          obtain ⟨h1, h2⟩ := b2a h
          exact s_for po g.calm (it_ok g hE h1).1 (chkG_ok g _ _ h2) (ihSs _ _ h3) (it_ok g hE h1).2
        · cases h
      | while_ c body =>
        rw [chkS.eq_def] at h; dsimp only at h; split at h
        · obtain ⟨h1, h2⟩ := b2a h
          exact s_while po (hT _ _ h1) (ihSs _ _ h2)
        · cases h
      | brk =>
        rw [chkS.eq_def] at h; dsimp only at h; split at h
        · exact s_brk
        · cases h
      | cont =>
        rw [chkS.eq_def] at h; dsimp only at h; split at h
        · exact s_cont
        · cases h
      | frz i => rw [chkS.eq_def] at h; exact absurd h Bool.false_ne_true
      | mv i => rw [chkS.eq_def] at h; exact absurd h Bool.false_ne_true
      | newP i c args is es =>
        rw [chkS.eq_def] at h; dsimp only at h; split at h
        · obtain ⟨h, h8⟩ := b2a h
          obtain ⟨h, h7⟩ := b2a h
          obtain ⟨h, h6⟩ := b2a h
          obtain ⟨h, h5⟩ := b2a h
          obtain ⟨h, h4⟩ := b2a h
          obtain ⟨h, h3⟩ := b2a h
          obtain ⟨h1, h2⟩ := b2a h
          have e1 := List.isEmpty_iff.mp h1
          have e2 := List.isEmpty_iff.mp h2
          subst e1 e2
          cases ho : G.ob c with
          | none => exact s_newB ho
          | some zF =>
            obtain ⟨z, Fo⟩ := zF
            obtain ⟨e, pe⟩ := new_ok' g h6 h7 h8 ho
            subst e
            exact s_new1 g.nd (g.ix h3) (g.loc h4) ho pe rfl (g.hf h5)
        · obtain ⟨h, h8⟩ := b2a h
          obtain ⟨h, h7⟩ := b2a h
          obtain ⟨h, h6⟩ := b2a h
          obtain ⟨h, h5⟩ := b2a h
          obtain ⟨h, h4⟩ := b2a h
          obtain ⟨h, h3⟩ := b2a h
          obtain ⟨h1, h2⟩ := b2a h
          cases ho : G.ob c with
          | none => exact s_newB ho
          | some zF =>
            obtain ⟨z, Fo⟩ := zF
            obtain ⟨e, pe⟩ := new_ok' g h4 h5 h6 ho
            subst e
            obtain ⟨t1, t2, t3⟩ := chkGs_ok g _ _ h1
            exact s_newN g.calm ho pe (all_G g h8 h7) rfl t1 (by rw [t2]; simp) t3 rfl (swap_long (of_decide_eq_true h3)) (of_decide_eq_true h2)
        · cases h
      | retO w es =>
        rw [chkS.eq_def] at h; dsimp only at h; split at h
        · obtain ⟨h, h3⟩ := b2a h
          obtain ⟨h1, h2⟩ := b2a h
          subst h1
          exact s_retO2 (all_L hE h3 h2)
        · obtain ⟨h1, h2⟩ := b2a h
          have e1 : w = false := by cases w with | false => rfl | true => cases h1
          subst e1
          split at h2
          · exact s_retO1 (hE _ _ h2)
          · cases h2
        · cases h
      | augAtt i x f op c =>
        rw [chkS.eq_def] at h; dsimp only at h; split at h
        · obtain ⟨h, h5⟩ := b2a h
          obtain ⟨h, h4⟩ := b2a h
          obtain ⟨h, h3⟩ := b2a h
          obtain ⟨h1, h2⟩ := b2a h
          obtain ⟨pd, sl⟩ := slB_ok g h4
          rw [← opEq_ok h2]
          exact s_augAtt h1 (g.var h3) (hE _ _ h5) sl
        · cases h
      | unpS i j c =>
        rw [chkS.eq_def] at h; dsimp only at h; split at h
        · obtain ⟨h, h9⟩ := b2a h
          obtain ⟨h, h8⟩ := b2a h
          obtain ⟨h, h7⟩ := b2a h
          obtain ⟨h, h6⟩ := b2a h
          obtain ⟨h, h5⟩ := b2a h
          obtain ⟨h, h4⟩ := b2a h
          obtain ⟨h, h3⟩ := b2a h
          obtain ⟨h1, h2⟩ := b2a h
          exact s_unpS g.calm g.nd (g.ix h1) (g.ix h4) (g.loc h2) (g.loc h5) (g.hf h3) (g.hf h6) (hE _ _ h7) (sole_sw h8) (notTup_sw h9)
        · cases h
    refine ⟨partS, fun cs sts h => ?_⟩
    rw [chkSs.eq_def] at h
    dsimp only at h
    split at h
    · cases sts with
      | nil => exact ss_nil
      | cons _ _ => cases h
    · split at h
      · exact ss_frz (ihSs _ _ h)
      · exact ss_mv (ihSs _ _ h)
      · split at h
        · cases h
        · obtain ⟨h1, h2⟩ := b2a h
          exact ss_cons (ihS _ _ h1) (ihSs _ _ h2)
end
end Zw
set_option Elab.async false
set_option linter.all false
set_option maxRecDepth 100000
set_option maxHeartbeats 2000000
/-! ZwI: __init__ of a class with slots, checked. -/
namespace Zw
open PySem PySem.Spec PyProof.Rows L2
def rsB (M : Ck) (E : CkE) (c : Nat) : Stmt → Bool
  | .Raise (some (.Call (.Name x _) [.Constant (.str _) _ _] [] _)) none _ => atB M.clm c x && glB E.sc x && okName x && decide (M.attr c = none)
  | _ => false
def tgB (E : CkE) (fs : List Str) : List Nat → List Expr → Bool
  | [], [] => true
  | i :: is, .Attribute (.Name z _) f _ :: es => varB E 0 z && atB fs i f && tgB E fs is es
  | _, _ => false
def vsB (E : CkE) : List Nat → List Expr → Bool
  | [], [] => true
  | j :: js, .Name v _ :: es => varB E j v && vsB E js es
  | _, _ => false
def oneB (E : CkE) (fs : List Str) (g : List (Nat × Nat)) (z f v : Str) : Bool := match g with
  | [(i, j)] => varB E 0 z && atB fs i f && varB E j v
  | _ => false
def inB (M : Ck) (n : Nat) (E : CkE) (fs : List Str) : List (CE × Nat) → List (List (Nat × Nat)) → List Stmt → Bool
  | [], [], [] => true
  | (c, x) :: pre, sets, .If t [r] [] _ :: rest => chkT M n E c t && rsB M E x r && inB M n E fs pre sets rest
  | [], g :: sets, .Assign [.Attribute (.Name z _) f _] (.Name v _) _ :: rest => oneB E fs g z f v && inB M n E fs [] sets rest
  | [], g :: sets, .Assign [.Tuple ts _ _] (.Tuple vs _ _) _ :: rest => decide (g.length ≤ 1000) && tgB E fs (g.map (·.1)) ts && vsB E (g.map (·.2)) vs && ts.any (outB E.sc) && inB M n E fs [] sets rest
  | _, _, _ => false
section
variable {M : Ck} {G : Gx} {xc : Nat → Option XCls} {k : Nat} {E : CkE} {X : Cx} {W : WX} {F0 H0 : Hp} {μ : List Addr} {σ : L2.St} {ρ : Env} {x dx C : Addr} {fs : List Str}
theorem tg_ok (g : Cg M G xc k E X W) (h0 : σ[0]? = some (some (.ref x))) (c : SlX.SCls X.K C) (sl : ∀ (i : Nat) (f : Str), fs[i]? = some f → ∃ p, SlX.Slot1 X.K C f p i) : ∀ {is : List Nat} {es : List Expr}, tgB E fs is es = true →
    PGs X es (gMS X.K F0 H0 μ x dx C σ is) ∧ (assignEach es X.env).length = is.length ∧ (assignEach es X.env).findIdx? (·.1) = none
  | [], [], _ => ⟨gm_nil, rfl, rfl⟩
  | [], _ :: _, h => by simp [tgB] at h
  | i :: is, [], h => by simp [tgB] at h
  | i :: is, e :: es, h => by
    cases e with
    | Attribute o f pos =>
      cases o with
      | Name z p =>
        rw [tgB] at h
        obtain ⟨h, h3⟩ := b2a h
        obtain ⟨h1, h2⟩ := b2a h
        obtain ⟨k1, k2, k3⟩ := tg_ok g h0 c sl h3
        obtain ⟨pd, s1⟩ := sl i f (of_decide_eq_true h2)
        refine ⟨gm_cons (g.var h1) h0 c s1 k1, ?_, ?_⟩
        · rw [assignEach_map rfl, List.length_cons, List.length_cons, k2]
        · rw [assignEach_map rfl, List.findIdx?_cons, k3]
          rfl
      | _ => simp [tgB] at h
    | _ => simp [tgB] at h
theorem vs_ok (g : Cg M G xc k E X W) : ∀ {js : List Nat} {es : List Expr}, vsB E js es = true → PA X es (tVars js)
  | [], [], _ => vars_nil
  | [], _ :: _, h => by simp [vsB] at h
  | i :: is, [], h => by simp [vsB] at h
  | j :: js, e :: es, h => by
    cases e with
    | Name v p =>
      rw [vsB] at h
      obtain ⟨h1, h2⟩ := b2a h
      exact vars_cons (g.var h1) (vs_ok g h2) rfl
    | _ => simp [vsB] at h
theorem in_ok (g : Cg M G xc k E X W) {n : Nat} (er : ER X.K F0 μ H0 ρ σ) (h0 : σ[0]? = some (some (.ref x))) (c : SlX.SCls X.K C) (sl : ∀ (i : Nat) (f : Str), fs[i]? = some f → ∃ p, SlX.Slot1 X.K C f p i) :
    ∀ {sts : List Stmt} {pre : List (CE × Nat)} {sets : List (List (Nat × Nat))}, inB M n E fs pre sets sts = true → PSs X sts (tIn X.K xc F0 H0 μ W x dx C σ (semI G pre sets ρ)) := by
  intro sts
  induction sts with
  | nil =>
    intro pre sets h
    unfold inB at h
    split at h
    · exact i_nil
    · rename_i e; cases e
    · rename_i e; cases e
    · rename_i e; cases e
    · cases h
  | cons st rest ih =>
    intro pre sets h
    unfold inB at h
    split at h
    · rename_i e; cases e
    · rename_i cc cl pre' sets' t r pos rest' e
      cases e
      obtain ⟨h, h3⟩ := b2a h
      obtain ⟨h1, h2⟩ := b2a h
      unfold rsB at h2
      split at h2
      · obtain ⟨h2, r4⟩ := b2a h2
        obtain ⟨h2, r3⟩ := b2a h2
        obtain ⟨r1, r2⟩ := b2a h2
        obtain ⟨q1, q2⟩ := s_raise0 g (of_decide_eq_true r1) (of_decide_eq_true r4) (g.gl r2) (okName_ok r3).1
        exact i_pre er ((chk_ok M G xc k n).2 E X W _ _ g h1) q1 q2 (ih h3)
      · cases h2
    · rename_i gg sets' z p f p1 v p2 pos rest' e
      cases e
      obtain ⟨h1, h2⟩ := b2a h
      unfold oneB at h1
      split at h1
      · obtain ⟨h1, r3⟩ := b2a h1
        obtain ⟨r1, r2⟩ := b2a h1
        obtain ⟨pd, s1⟩ := sl _ _ (of_decide_eq_true r2)
        exact i_set1 er (g.var r1) (g.var r3) h0 c s1 rfl (ih h2)
      · cases h1
    · rename_i gg sets' ts k1 p1 vs k2 p2 pos rest' e
      cases e
      obtain ⟨h, h5⟩ := b2a h
      obtain ⟨h, h4⟩ := b2a h
      obtain ⟨h, h3⟩ := b2a h
      obtain ⟨h1, h2⟩ := b2a h
      have h1 := of_decide_eq_true h1
      obtain ⟨t1, t2, t3⟩ := tg_ok (F0 := F0) (H0 := H0) (μ := μ) (dx := dx) g h0 c sl h2
      exact i_setN (is := []) (js := []) g.calm er t1 (vs_ok g h3) (by rw [t2]; simp) t3 rfl (swap_none g.sc h4) (by unfold line; omega) (ih h5)
    · cases h
end
end Zw
set_option Elab.async false
set_option linter.all false
set_option maxRecDepth 100000
set_option maxHeartbeats 2000000
/-! ZwX: an exception that keeps one thing: __init__ says super().__init__(x), then self.f = x. -/
namespace Zw
open PySem PySem.Spec PyProof.Rows L2
/-! ### the text -/
def exB (f : Str) (st : Stmt) : Bool := match defArgs st, defBody st with
  | ⟨[], [a, b], none, [], [], none, []⟩, [.Expr (.Call (.Attribute (.Call (.Name s _) [] [] _) i ap) [.Name g _] [] cp) _, .Assign [.Attribute (.Name sf _) f' _] (.Name g' _) _] =>
    (ap.endLine == cp.line) && decide (s = ("super" : Str)) && decide (i = ("__init__" : Str)) && decide (g = b.arg) && decide (g' = b.arg) && decide (sf = a.arg) && decide (f' = f) && !decide (a.arg = b.arg) &&
      kindB (defScope st) && !(defScope st).isCoroutine && !(defScope st).isGenerator && ((defScope st).names.all fun y => match y.2 with
        | .cell => false
        | _ => true) && localB (defScope st) a.arg && localB (defScope st) b.arg && glB (defScope st) "super" && decide ((defScope st).names.lookup ("__class__" : Str) = some .free) && okName a.arg && okName b.arg
  | _, _ => false
/-- what the written part says of the class and of its __init__ -/
structure ExT (P : Program) (K : PySem.W.Frag) (C fI : Addr) (x f : Str) (B newId initId : String) (bmB : List Value) (st : Stmt) : Prop where
  cls : PySem.W.excInitIn K C bmB newId = true
  iC : PySem.W.findIn K (.ref C) "__init__" = some (some (.ref fI))
  tI : PySem.W.isFn K (.ref fI) = true
  sa : PySem.W.findIn K (.ref C) "__setattr__" = some (some (.builtin "object.__setattr__"))
  ov : PySem.W.excOver K C bmB = true
  tk : PySem.W.takerIn K C f = some none
  hd : PySem.W.hasDictIn K C = true
  kp : PySem.W.keepIn K (.ref C) = true
  sB : PySem.W.subIn K (.ref C) (.type B) = some true
  sE : PySem.W.subIn K (.ref C) (.type "BaseException") = some true
  ty : PySem.W.typeIn K (.ref C) = some (.type "type")
  sup : PySem.W.ks_superIn K C C "__init__" = some (some (.builtin initId))
  opq : PySem.W.nsIn K cStatics "thirdparty.any" = some none
  slf : PySem.W.mroIn K C (.ref C) = some true
  spr : PySem.W.nsIn K mainGlobals "super" = some none
  ic : PySem.W.isClsIn K C = true
  fn : ∃ (oc : Value) (od : Option Addr) (osl : Array (Option Value)) (kV doc pm : Value) (an : Option Addr) (ct : Value) (cda cc : Addr), K.lookup fI = some ⟨oc, od, .func (PySem.W.ksFn "__init__" (x ++ (".__init__" : Str)) (defArgs st) (defBody st) (defScope st) .none kV doc pm an (.ref cda) ct cc), osl⟩ ∧
    PySem.W.codeIn K (.ref cda) (x ++ (".__init__" : Str)) = true ∧ (∃ (ccl : Value) (cdd : Option Addr) (vs : Array Value) (ccs : Array (Option Value)) (file : Str) (tf : Tok), K.lookup cda = some ⟨ccl, cdd, .fields vs, ccs⟩ ∧ vs[2]? = some (.str file tf) ∧ ((P.main.file : Str) == file) = true) ∧
    ∃ (cl : Value) (cld : Option Addr) (csl : Array (Option Value)), K.lookup cc = some ⟨cl, cld, .cell (some (.ref C)), csl⟩
  top : (P.main.scope.names.lookup ("super" : Str)).isSome = false
/-- a made exception -/
structure ExMade (h h' : Heap) (e C d : Addr) (f : Str) (v : Value) : Prop where
  keep : ∀ b o, h.get? b = some o → h'.get? b = some o
  new : h.objs.size ≤ e
  obj : ∃ oe vs, h'.get? e = some oe ∧ oe.cls = .ref C ∧ oe.dict = some d ∧ oe.data = .fields vs ∧ vs[1]? = some .none
  dbig : h.objs.size ≤ d
  dne : d ≠ e
  ns : h'.Ns1 d (fun y => if y = f then some v else none)
theorem bind2 {nm ql : Str} {a b : Arg} {body : List Stmt} {sc : Scope} {kV doc pm ct cdv : Value} {an : Option Addr} {cc : Addr} (hne : a.arg ≠ b.arg) (u v : Value) : bindArgs (PySem.W.ksFn nm ql ⟨[], [a, b], none, [], [], none, []⟩ body sc .none kV doc pm an cdv ct cc) ⟨[u, v], []⟩ = pure [(a.arg, u), (b.arg, v)] := by
  have e1 : List.lookup a.arg [(a.arg, u), (b.arg, v)] = some u := by simp [List.lookup]
  have n : (b.arg == a.arg) = false := by simpa using Ne.symm hne
  have e2 : List.lookup b.arg [(a.arg, u), (b.arg, v)] = some v := by simp [List.lookup, n]
  unfold bindArgs
  simp [PySem.W.ksFn, PySem.W.fnX, seqItems?, e1, e2]
  rfl
section
open PySem.W PySem.Calls
variable {prog : Program} {w : World} {A : Around} {R : Result → Shared → Prop} {s : Shared} {K : PySem.W.Frag} {mg mb : Str → Option Value} {C fI : Addr} {x f : Str} {B newId initId : String} {bmB : List Value} {st : Stmt}
theorem ns1_one {h : Heap} {d : Addr} {hs : Int} {f : Str} {t : Tok} {v : Value} {n : Nat} (e : h.get? d = some (dictOf [⟨hs, .str f t, v⟩] n)) : h.Ns1 d (fun y => if y = f then some v else none) := by
  refine ⟨_, #[⟨hs, .str f t, v⟩], n, e, rfl, ?_, ?_, fun y => ?_⟩
  · intro en hen
    simp at hen
    subst hen
    exact ⟨f, t, rfl⟩
  · unfold UniqKeys
    simp
  · by_cases q : y = f
    · subst q
      simp [nsFind, findBy, Value.isStr]
    · simp [nsFind, findBy, Value.isStr, q, Ne.symm q]
/-- super() within __init__ -/
theorem super_node {h₀ : Heap} {L f cda cc xa D C2 : Addr} {m : Str → Option Value} {news : List (Addr × Obj)} {body : List Stmt} {q : Str} {scope : Scope} {p0 p1 : Pos} {attr : Str} {whole : Sem Value} {fd : FuncData} {ar : Arg} {vs : Array Value} {file : Str} {tf : Tok} {oc ccl cl : Value} {od cdd cld : Option Addr} {osl ccs csl : Array (Option Value)} {ox : Obj} {odx : Option Obj} {E : Value → Shared → Prop} {Q : Value → Shared → Prop}
    (F : Fr h₀ L s.heap m) (X₀ : K.In h₀) (N : News h₀ L s.heap news) (G : h₀.Ns mainGlobals mg) (Bn : h₀.Ns builtinsNs mb) (hbb : ∀ x : Str, x ≠ "__name__" → mb x = bootBuiltins x)
    (hf : K.lookup f = some ⟨oc, od, .func fd, osl⟩) (hp : (fd.params.posonlyargs ++ fd.params.args).head? = some ar) (hv : m ar.arg = some (.ref xa)) (I : InstAt s.heap xa ox C2 odx)
    (hcode : K.lookup cda = some ⟨ccl, cdd, .fields vs, ccs⟩) (hvs : vs[2]? = some (.str file tf)) (hfile : ((prog.main.file : Str) == file) = true)
    (hcell : K.lookup cc = some ⟨cl, cld, .cell (some (.ref D)), csl⟩) (hD : isClsIn K D = true) (hsub : mroIn K C2 (.ref D) = some true) (hsuper : nsIn K mainGlobals "super" = some none)
    (hat : (attr == ("__class__" : Str)) = false) (hks : scope.names.lookup ("super" : Str) = some .globalImplicit) (hkc : scope.names.lookup ("__class__" : Str) = some .free) (hka : scope.names.lookup ar.arg = some .local) (hk : scope.kind = .function)
    (htop : (prog.main.scope.names.lookup ("super" : Str)).isSome = false)
    (h : ∀ so h', Fr h₀ L h' m → News h₀ L h' ((so, ks_superObj D xa C2) :: news) → (∀ p ∈ news, p.1 < so) → Q (.ref so) { s with heap := h' }) :
    _root_.PySem.wpAt (model prog w) A (.func body (ksEnv q scope L f (.ref cda) cc)) (attributeBase (.Call (.Name "super" p0) [] [] p1) attr (ksEnv q scope L f (.ref cda) cc) whole) Q E s := by
  have X : K.In s.heap := X₀.keeps F.keep
  obtain ⟨hh, g, d, t, os⟩ := s
  obtain ⟨cdD, hD0⟩ := Option.isSome_iff_exists.mp (show (clsIn K D).isSome = true from hD)
  obtain ⟨oD, hD1, hD2⟩ : ∃ oD, hh.get? D = some oD ∧ oD.data = .cls cdD := by
    unfold clsIn at hD0
    split at hD0
    · rename_i c d cd' sl ho
      cases hD0
      exact ⟨_, X _ _ ho, rfl⟩
    · cases hD0
  refine ks_wpAt_super_base (env := ksEnv q scope L f (.ref cda) cc) hks hkc hat rfl (X _ _ hf) rfl hp rfl (X _ _ hcode) rfl hvs hfile htop ?_
  refine ks_loadName_global hk hks (loadGlobal_builtin (env := ksEnv q scope L f (.ref cda) cc) (G.keeps F.keep) (mg_none_of X₀ G hsuper) (Bn.keeps F.keep) ((hbb _ (by decide +kernel)).trans PyProof.Rows.Boot.«super») ⟨rfl, ?_⟩)
  refine wpAny_loadName_free hk hkc rfl ⟨_, X _ _ hcell, rfl⟩ ?_
  refine wpAny_loadName_local hk hka F.ns hv ?_
  refine ks_wpAny_isType_cls hD1 hD2 ⟨rfl, ?_⟩
  refine ks_wpAny_call_super hD1 hD2 I.at_ I.cls (fun c e => ?_) (looks_mroIn X hsub) (fun h' e k => ?_)
  · have := I.no
    unfold notCls at this
    rw [e] at this
    exact Bool.noConfusion this
  · obtain ⟨F', N', l'⟩ := ks_newsPush (s := ⟨hh, g, d, t, os⟩) F N rfl e k
    exact h _ _ F' N' l'
theorem noInt {env : PySem.Env} (h : env.scope.kind = .function) : interactive env = false := by
  unfold interactive
  rw [h]
  rfl
theorem call_eq {o : Expr} {name : Str} {n : Str} {p4 apos pos : Pos} {env : PySem.Env} (hl : (apos.endLine == pos.line) = true) : eval (.Call (.Attribute o name apos) [.Name n p4] [] pos) env = (do
      let ov ← attributeBase o name env (eval o env)
      standAt apos.atName
      let (f, first) ← holding [ov] (getMethod ov name (do return (← importBound o env).getD true))
      callWith pos f first (backTo pos (starEach [.Name n p4] env)) []) := by
  have hm : methodCallPos true o env apos pos = pure pos := by
    unfold methodCallPos
    rw [hl]
    rfl
  show (do
    let ov ← attributeBase o name env (eval o env)
    standAt apos.atName
    methodCall o name apos pos env ov 1 (backTo pos (starEach [.Name n p4] env)) []) = _
  have hf : methodCallForm 1 (backTo pos (starEach [.Name n p4] env)) [] = true := rfl
  simp only [methodCall, hf, hm, calleeOf, if_true, pure_bind]
/-- __init__ -/
theorem ex_init (T : ExT prog K C fI x f B newId initId bmB st) (FB : ExcBaseFacts B newId initId bmB) (KF : KxsFacts B initId) (SF : StoreFacts B bmB "object.__setattr__" "object") (sh : exB f st = true) {h₀ : Heap} (X₀ : K.In h₀) (G : h₀.Ns mainGlobals mg) (Bn : h₀.Ns builtinsNs mb) (hbb : ∀ x : Str, x ≠ "__name__" → mb x = bootBuiltins x)
    (lim : s.heap.NoLimit) {e t0 : Addr} {v : Value} (he : s.heap.get? e = some (excObj C t0 none .none)) (k0 : ∀ b o, h₀.get? b = some o → s.heap.get? b = some o) (ne : h₀.get? e = none) (above : h₀.objs.size ≤ s.heap.objs.size) (hroom : A.depth < recursionLimit)
    (hq : ∀ h' tk dx, (∀ b o, h₀.get? b = some o → h'.get? b = some o) → (∃ t1, h'.get? e = some (excObj C t1 (some dx) .none)) → e < dx → h'.Ns1 dx (fun y => if y = f then some v else none) → R (.ok (.ret .none)) { s with heap := h', toks := tk }) :
    codeAny (model prog w) A (.call (.ref fI) ⟨[.ref e, v], []⟩) R s := by
  obtain ⟨oc, od, osl, kV, doc, pm, an, ct, cda, cc, lk, hcd, ⟨ccl, cdd, vs, ccs, file, tf, hcode, hvs, hfile⟩, cl, cld, csl, hcell⟩ := T.fn
  have X : K.In s.heap := fun b o z => k0 b o (X₀ b o z)
  unfold exB at sh
  split at sh
  · rename_i a b sn p1 p2 im p3 g p4 p5 p6 sf p7 f' p8 g' p9 p10 e1 e2
    obtain ⟨sh, c17⟩ := b2a sh
    obtain ⟨sh, c16⟩ := b2a sh
    obtain ⟨sh, c15⟩ := b2a sh
    obtain ⟨sh, c14⟩ := b2a sh
    obtain ⟨sh, c13⟩ := b2a sh
    obtain ⟨sh, c12⟩ := b2a sh
    obtain ⟨sh, c11⟩ := b2a sh
    obtain ⟨sh, c10⟩ := b2a sh
    obtain ⟨sh, c9⟩ := b2a sh
    obtain ⟨sh, c8⟩ := b2a sh
    obtain ⟨sh, c7⟩ := b2a sh
    obtain ⟨sh, c6⟩ := b2a sh
    obtain ⟨sh, c5⟩ := b2a sh
    obtain ⟨sh, c4⟩ := b2a sh
    obtain ⟨sh, c3⟩ := b2a sh
    obtain ⟨sh, c2⟩ := b2a sh
    obtain ⟨c18, c1⟩ := b2a sh
    have c1 := of_decide_eq_true c1
    have c2 := of_decide_eq_true c2
    have c3 := of_decide_eq_true c3
    have c4 := of_decide_eq_true c4
    have c5 := of_decide_eq_true c5
    have c6 := of_decide_eq_true c6
    have c7 : a.arg ≠ b.arg := by simpa using c7
    have c15 := of_decide_eq_true c15
    have kind : (defScope st).kind = .function := by
      unfold kindB at c8
      split at c8
      · assumption
      · cases c8
    have sco : (defScope st).isCoroutine = false := by simpa using c9
    have sgen : (defScope st).isGenerator = false := by simpa using c10
    have hcl : ∀ y ∈ (defScope st).names, y.2 ≠ .cell := fun y hy z => by
      have q := List.all_eq_true.mp c11 y hy
      rw [z] at q
      cases q
    have la := localB_ok c12
    have lb := localB_ok c13
    have lsu : (defScope st).names.lookup ("super" : Str) = some .globalImplicit := by
      unfold glB at c14
      split at c14
      · assumption
      · cases c14
    rw [c1, c2, c3, c4, c5, c6] at e2
    rw [e1, e2] at lk
    refine ks_codeAny_call_defAt (fd := ksFn "__init__" (x ++ (".__init__" : Str)) _ _ (defScope st) .none kV doc pm an (.ref cda) ct cc) (binds := [(a.arg, .ref e), (b.arg, v)]) hroom (X _ _ lk) rfl lim (codeRec_of X hcd) rfl (BindsTo.of_eq (bind2 c7 _ _)) hcl (fun y hy => ?_) (fun h₁ hns hk₁ => ?_) sco sgen kind
    · rcases List.mem_cons.mp hy with z | z
      · rw [z]; exact la
      · rw [List.mem_singleton.mp z]; exact lb
    have F1 : Fr h₀ s.heap.objs.size h₁ (fun y => ([(a.arg, .ref e), (b.arg, v)] : List (Str × Value)).reverse.lookup y) := ⟨hns, fun b o z => hk₁ b o (k0 b o z), above⟩
    have N1 : News h₀ s.heap.objs.size h₁ [(e, excObj C t0 none .none)] := fun p hp => by
      rw [List.mem_singleton.mp hp]
      exact ⟨hk₁ _ _ he, Nat.ne_of_lt (Heap.lt_size he), ne⟩
    have ma : ([(a.arg, .ref e), (b.arg, v)] : List (Str × Value)).reverse.lookup a.arg = some (.ref e) := by
      have n : (a.arg == b.arg) = false := by simpa using c7
      simp [List.lookup, n]
    have mb' : ([(a.arg, .ref e), (b.arg, v)] : List (Str × Value)).reverse.lookup b.arg = some v := by simp [List.lookup]
    show _root_.PySem.wpAt _ (A.deeper (ksEnv (x ++ (".__init__" : Str)) (defScope st) s.heap.objs.size fI (.ref cda) cc)) (.func _ (ksEnv (x ++ (".__init__" : Str)) (defScope st) s.heap.objs.size fI (.ref cda) cc)) (PySem.execs _ (ksEnv (x ++ (".__init__" : Str)) (defScope st) s.heap.objs.size fI (.ref cda) cc)) _ _ _
    have kb : (ksEnv (x ++ (".__init__" : Str)) (defScope st) s.heap.objs.size fI (.ref cda) cc).kindOf b.arg = some .local := lb
    have ka : (ksEnv (x ++ (".__init__" : Str)) (defScope st) s.heap.objs.size fI (.ref cda) cc).kindOf a.arg = some .local := la
    have ke : (ksEnv (x ++ (".__init__" : Str)) (defScope st) s.heap.objs.size fI (.ref cda) cc).scope.kind = .function := kind
    refine ks_wpAt_execs_cons (ks_wpAt_Expr_any (hi := noInt kind) (ks_wpAt_MethodCall (he := call_eq c18) (super_node (C2 := C) (D := C) (xa := e) (ar := a) F1 X₀ N1 G Bn hbb lk rfl ma (InstAt.of_exc0 (t := t0) (c2 := .none) N1 List.mem_cons_self) hcode hvs hfile hcell T.ic T.slf T.spr (by decide) lsu c15 la kind T.top fun so h2 F2 N2 l2 => ?_)))
    refine kxs_method KF F2 X₀ N2 List.mem_cons_self (InstAt.of_exc0 (t := t0) (c2 := .none) N2 (List.mem_cons_of_mem _ List.mem_cons_self)) T.opq T.sup T.sB (by decide) fun u h3 F3 N3 l3 => ?_
    refine kxs_callWith1 (u := u) (i := initId) (x := e) N3 List.mem_cons_self (Calls.spliced_cons ?_)
    refine wpAny_Name (wpAny_loadName_local ke kb F3.ns (by exact mb') ?_) (okName_ok c17).1
    refine Calls.spliced_nil ⟨kxs_at N3 List.mem_cons_self, ?_⟩
    have ue : u ≠ e := Nat.ne_of_gt (l3 (e, excObj C t0 none .none) (List.mem_cons_of_mem _ List.mem_cons_self))
    have se : so ≠ e := Nat.ne_of_gt (l2 (e, excObj C t0 none .none) List.mem_cons_self)
    refine kxs_call (x := e) (t := t0) (dv := none) (c2 := .none) F3 X₀ N3 FB T.cls List.mem_cons_self (.tail ue (.tail se (.head (fun p hp => by simp at hp)))) (by rw [sizeLine_eq]; simp) fun t1 h4 F4 N4 l4 => ?_
    have te : t1 ≠ e := Nat.ne_of_gt (l4 (e, excObj C t0 none .none) (List.mem_cons_of_mem _ (List.mem_cons_of_mem _ List.mem_cons_self)))
    refine ks_wpAt_execs_cons (ks_wpAt_Assign_Attr ?_)
    refine _root_.PySem.wpAt_of_wpAny ?_
    refine wpAny_Name (wpAny_loadName_local ke kb F4.ns (by exact mb') ?_) (okName_ok c17).1
    refine wpAny_Name (wpAny_loadName_local ke ka F4.ns (by exact ma) ?_) (okName_ok c16).1
    refine set_exc0 (x := e) (t := t1) (c2 := .none) SF F4 X₀ N4 (List.mem_cons_of_mem _ (List.mem_cons_of_mem _ (List.mem_cons_of_mem _ List.mem_cons_self))) T.sa T.ov T.tk T.hd rfl (.tail te (.tail ue (.tail se (.head (fun p hp => by simp at hp))))) (by simp [putL]) fun dx h5 F5 N5 l5 => ?_
    refine _root_.PySem.wpAt_of_wpAny (wpAny_execs_nil ?_)
    have z1 := N5 (e, excObj C t1 (some dx) .none) (List.mem_cons_of_mem _ (List.mem_cons_of_mem _ (List.mem_cons_of_mem _ (List.mem_cons_of_mem _ List.mem_cons_self))))
    have z2 := N5 (dx, _) List.mem_cons_self
    exact hq h5 _ dx F5.keep ⟨t1, z1.1⟩ (l5 (e, excObj C t1 none .none) (List.mem_cons_of_mem _ (List.mem_cons_of_mem _ (List.mem_cons_of_mem _ List.mem_cons_self)))) (ns1_one z2.1)
  · cases sh
/-- C(v) -/
theorem ex_made (T : ExT prog K C fI x f B newId initId bmB st) (FB : ExcBaseFacts B newId initId bmB) (KF : KxsFacts B initId) (SF : StoreFacts B bmB "object.__setattr__" "object") (sh : exB f st = true) {v : Value} (X : K.In s.heap) (G : s.heap.Ns mainGlobals mg) (Bn : s.heap.Ns builtinsNs mb) (hbb : ∀ x : Str, x ≠ "__name__" → mb x = bootBuiltins x)
    (hlim : s.heap.NoLimit) (hroom : A.depth + 1 < recursionLimit) (hq : ∀ h' tk e d, ExMade s.heap h' e C d f v → R (.ok (.ret (.ref e))) { s with heap := h', toks := tk }) : codeAny (model prog w) A (.call (.ref C) ⟨[v], []⟩) R s := by
  obtain ⟨nm, N', qn, bs, bm, hdct, sn, sub, ab, col, dd, k0, k1, k2, k3, k5, hC, hT⟩ := excInit_of X T.cls
  obtain ⟨hp, g, dr, tk, os⟩ := s
  have k : ∀ b o, hp.get? b = some o → ((hp.push (kdv_tup [v])).push (HandSPX.excO C hp.objs.size)).get? b = some o := fun b o e => Heap.get?_push_of_some _ (Heap.get?_push_of_some _ e)
  have hget : ((hp.push (kdv_tup [v])).push (HandSPX.excO C hp.objs.size)).get? (hp.objs.size + 1) = some (HandSPX.excO C hp.objs.size) := by heap_get
  have hnone : hp.get? (hp.objs.size + 1) = none := by
    cases e : hp.get? (hp.objs.size + 1) with
    | none => rfl
    | some o => exact absurd (Nat.lt_of_succ_lt (Heap.lt_size e)) (Nat.lt_irrefl _)
  refine HandSPX.call_own FB hT hC (looks_findIn X T.iC) (fun self => bind_fn X self (beq_iff_eq.mp T.tI)) (by rw [sizeLine_eq]; simp) ?_
  refine ex_init (h₀ := hp) (s := ⟨(hp.push (kdv_tup [v])).push (HandSPX.excO C hp.objs.size), g, dr, tk, os⟩) (t0 := hp.objs.size) T FB KF SF sh X G Bn hbb (hlim.keeps k) hget k hnone (by rw [Heap.size_push, Heap.size_push]; omega) ?_ fun h' tk' dx k' ⟨t1, ho⟩ lt hns => ?_
  · rw [make_depth]; exact hroom
  · exact ⟨rfl, hq h' tk' (hp.objs.size + 1) dx ⟨k', Nat.le_succ _, ⟨_, _, ho, rfl, rfl, rfl, rfl⟩, Nat.le_of_lt (Nat.lt_of_succ_lt lt), Nat.ne_of_gt lt, hns⟩⟩
end
theorem relO_ex {f : Str} {v : V} {v' : Value} (r : RelV v v') (g : Str) : RelO (List.lookup g [(f, v)]) (if g = f then some v' else none) := by
  by_cases hw : g = f
  · subst hw
    rw [if_pos rfl]
    have q : List.lookup g [(g, v)] = some v := by simp [List.lookup]
    rw [q]
    exact r
  · rw [if_neg hw]
    have qw : (g == f) = false := by simpa using hw
    have q2 : List.lookup g [(f, v)] = none := by simp [List.lookup, qw]
    rw [q2]
    trivial
section
variable {X : Cx} {C fI : Addr} {x f : Str} {B newId initId : String} {bmB : List Value} {st : Stmt}
theorem pmk_ex (T : ExT X.prog X.K C fI x f B newId initId bmB st) (FB : ExcBaseFacts B newId initId bmB) (KF : PySem.W.KxsFacts B initId) (SF : StoreFacts B bmB "object.__setattr__" "object") (sh : exB f st = true) {a : Expr} {ta : TA} {p pos : Pos} {k : Nat} (hm : X.mg x = some (.ref C)) (hr : Room k X.A) (hg : L2.Gl X x)
    (hdb : (x == ("__debug__" : Str)) = false) (ha : PA X [a] ta) (hs : notStar a = true) : PMk X (.Call (.Name x p) [a] [] pos) (tMkEx C f ta) := by
  intro pins s σ H Q I h
  refine wpAny_Call_Name_kw (ld_glob I hg hm ?_ hdb)
  refine PySem.W.callWith_K (h₀ := X.base) I.ok.mod.kin T.kp (thn (ha.run pos pins s σ H _ I h) fun us s1 ⟨vs, H1, I1, r1, v, ev, q1⟩ => ?_) (starEach_plain hs) (backTo_plain rfl)
  subst ev
  refine ⟨I1.kIn, ?_⟩
  obtain ⟨v', rfl, rv⟩ := r1.one
  show wpAny _ _ (call (.ref C) [v']) _ _ _
  have hlim := I1.nolimit
  have G := I1.ok.mod.glob.keeps I1.bk
  obtain ⟨mb, hb, hbb⟩ := I1.ok.mod.blt
  have Bn := hb.keeps I1.bk
  have KI := I1.kIn
  obtain ⟨hp, g, dr, tk, os⟩ := s1
  refine wpAny_call (ex_made T FB KF SF sh KI G Bn hbb hlim (by have := hr.dp; omega) fun h' tk' e d M => ?_)
  show MkP X pins σ Q (.ref e) ⟨h', g, dr, tk', os⟩
  obtain ⟨oe, fv, hoe, hc, hd, hdat, h1⟩ := M.obj
  have hns := M.ns
  obtain ⟨G', g1, g2⟩ := restrict h' fun b => decide (b ≠ e)
  have gk : ∀ b, b ≠ e → G'.get? b = h'.get? b := fun b hb => g1 b (decide_eq_true hb)
  have ge : G'.get? e = none := g2 e (by simp)
  have old : ∀ b o, hp.get? b = some o → G'.get? b = some o := fun b o q => (gk b (Nat.ne_of_lt (Nat.lt_of_lt_of_le (Heap.lt_size q) M.new))).trans (M.keep b o q)
  have ob : ObjOk X.prog X.w (upd H1 d (.xd [(f, v)])) G' d (.xd [(f, v)]) :=
    ⟨_, hns.at (fun o q => (gk d M.dne).trans q), fun g => relO_ex rv g⟩
  have J : Inv X pins σ (upd H1 d (.xd [(f, v)])) ⟨G', g, dr, tk', os⟩ := I1.laid (t' := tk') old M.dbig ob
  refine ⟨e, oe, fv, ⟨G', g, dr, tk', os⟩, _, .ref C, some d, rfl, J, fun b o q => ?_, ge, hoe, ⟨hc, hd⟩, hdat, h1, ?_, rfl, I1.bare, raises_own T.sE T.ty, q1 d (I1.hok.fresh M.dbig)⟩
  · by_cases hb : b = e
    · have q' : G'.get? b = some o := q
      rw [hb, ge] at q'; cases q'
    · exact (gk b hb).symm.trans q
  · rw [upd_ne (Ne.symm M.dne)]
    exact I1.hok.fresh M.new
end
/-! ### the bases -/
abbrev Base := String × String × String × List Value
def baseOf : Nat → Base
  | 0 => ("IndexError", "IndexError.__new__", "IndexError.__init__", [.type "IndexError", .type "LookupError", .type "Exception", .type "BaseException", .type "object"])
  | 1 => ("OverflowError", "OverflowError.__new__", "OverflowError.__init__", [.type "OverflowError", .type "ArithmeticError", .type "Exception", .type "BaseException", .type "object"])
  | 2 => ("ArithmeticError", "ArithmeticError.__new__", "ArithmeticError.__init__", [.type "ArithmeticError", .type "Exception", .type "BaseException", .type "object"])
  | 3 => ("LookupError", "LookupError.__new__", "LookupError.__init__", [.type "LookupError", .type "Exception", .type "BaseException", .type "object"])
  | _ => ("ValueError", "ValueError.__new__", "ValueError.__init__", [.type "ValueError", .type "Exception", .type "BaseException", .type "object"])
theorem base_ok : ∀ n, ExcBaseFacts (baseOf n).1 (baseOf n).2.1 (baseOf n).2.2.1 (baseOf n).2.2.2 ∧ PySem.W.KxsFacts (baseOf n).1 (baseOf n).2.2.1 ∧ StoreFacts (baseOf n).1 (baseOf n).2.2.2 "object.__setattr__" "object"
  | 0 => ⟨PySem.F.excBase_IndexError, PySem.W.kxs_IndexError, PySem.F.store_IndexError⟩
  | 1 => ⟨PySem.F.excBase_OverflowError, PySem.W.kxs_OverflowError, PySem.F.store_OverflowError⟩
  | 2 => ⟨PySem.F.excBase_ArithmeticError, PySem.W.kxs_ArithmeticError, PySem.F.store_ArithmeticError⟩
  | 3 => ⟨PySem.F.excBase_LookupError, PySem.W.kxs_LookupError, PySem.F.store_LookupError⟩
  | _ + 4 => ⟨PySem.F.excBase_ValueError, PySem.W.kxs_ValueError, PySem.F.store_ValueError⟩
end Zw
set_option Elab.async false
set_option linter.all false
set_option maxRecDepth 100000
set_option maxHeartbeats 2000000
/-! ZwV: instances that their methods change: given back by a def; __init__ checked. -/
namespace Zw
open PySem PySem.Spec PyProof.Rows L2
section
variable {K : PySem.W.Frag} {F F' H H' : Hp} {μ μ' ν : List Addr} {S S' : Store}
open Classical in
/-- what stands at the addresses ν is frozen -/
noncomputable def fzH (ν : List Addr) (F H : Hp) : Hp := fun a => if a ∈ ν then H a else F a
theorem ro_ok {v : V} {es : List FB} {w : Bool} {d : D} (r : Rel K F' μ' S' H') (x : Ext μ F H F' H') (em : μ' = μ ++ ν) (hν : ∀ a ∈ ν, Gone H a) (rv : RoV K F' μ' v es w) (n : Nat) (hn : μ.length = n) (h : (roDs n S' es).bind (roW w) = some d) :
    ∃ F'', Ext μ F H F'' H' ∧ Rel K F'' μ (S'.take n) H' ∧ Rp K F'' v d := by
  have inn : ∀ {a : Addr}, a ∈ ν → fzH ν F' H' a = H' a := fun h => if_pos h
  have out : ∀ {a : Addr}, a ∉ ν → fzH ν F' H' a = F' a := fun h => if_neg h
  have nF : ∀ a o, F' a = some o → a ∉ ν := fun a o e z => by
    have := r.dis a (by rw [em]; exact List.mem_append_right _ z)
    rw [this] at e
    cases e
  have sF : Same F' (fzH ν F' H') := fun a o e => by rw [out (nF a o e)]; exact e
  have nd := r.nd
  rw [em] at nd
  have dj := (List.nodup_append.mp nd).2.2
  have rc := r.cut n
  have rm : Rel K (fzH ν F' H') μ (S'.take n) H' := by
    have rc : Rel K F' μ (S'.take n) H' := by
      rw [em, ← hn, List.take_left' rfl] at rc
      rw [hn] at rc
      exact rc
    refine ⟨fun a o e => ?_, rc.len, rc.nd, fun k a xs e1 e2 => ?_, fun a ha => ?_, fun a o e => ?_, rc.tab, fun k a y fs e1 e2 => (rc.ob2 k a y fs e1 e2).to sF (fun _ _ h => h) fun _ _ h => h⟩
    · by_cases q : a ∈ ν
      · rw [inn q] at e; exact e
      · rw [out q] at e; exact rc.sub a o e
    · obtain ⟨vs, h1, h2⟩ := rc.obj k a xs e1 e2
      exact ⟨vs, h1, h2.mono sF⟩
    · rw [out (fun z => dj a ha a z rfl)]
      exact rc.dis a ha
    · by_cases q : a ∈ ν
      · rw [inn q] at e
        obtain ⟨u, hu, nu⟩ := r.live1 (a := a) (by rw [em]; exact List.mem_append_right _ q)
        rw [hu] at e
        cases e
        exact nu
      · rw [out q] at e; exact rc.ft a o e
  have at_ : ∀ (j : Nat) (a : Addr), μ'[j]? = some a → n ≤ j → a ∈ ν := fun j a e l => by
    rw [em, List.getElem?_append_right (by omega)] at e
    exact List.mem_of_getElem? e
  have fb : ∀ (f : FB) (u : V) (d : D) (μ2 : List Addr), (∀ (j : Nat) (a : Addr), μ2[j]? = some a → μ'[j]? = some a) → (match f with
      | .t d => Rp K F' u d
      | .r j => ∃ a, u = .ref a ∧ μ2[j]? = some a) → fbD n S' f = some d → Rp K (fzH ν F' H') u d := by
    intro f u d μ2 sub hf hd
    cases f with
    | t e => cases hd; exact Rp.mono sF hf
    | r j =>
      obtain ⟨a, eu, ha⟩ := hf
      subst eu
      have hd : (if n ≤ j then match S'[j]? with
        | some (.lst xs) => some (D.lst xs)
        | _ => none
        else none) = some d := hd
      by_cases l : n ≤ j
      · rw [if_pos l] at hd
        cases q : S'[j]? with
        | none => rw [q] at hd; cases hd
        | some o => cases o with
          | obj _ _ => rw [q] at hd; cases hd
          | lst xs =>
            rw [q] at hd
            cases hd
            obtain ⟨vs, h1, h2⟩ := r.obj j a xs (sub j a ha) q
            exact .lst (by rw [inn (at_ j a (sub j a ha) l)]; exact h1) (h2.mono sF)
      · rw [if_neg l] at hd; cases hd
  have fbs : ∀ (fs : List FB) (us : List V) (ds : List D) (μ2 : List Addr), (∀ (j : Nat) (a : Addr), μ2[j]? = some a → μ'[j]? = some a) → FbL K F' μ2 us fs → fbDs n S' fs = some ds → RpL K (fzH ν F' H') us ds := by
    intro fs
    induction fs with
    | nil =>
      intro us ds μ2 sub hf hd
      cases hf
      cases hd
      exact .nil
    | cons f fs ih =>
      intro us ds μ2 sub hf hd
      rw [fbDs] at hd
      obtain ⟨d1, q1, q2⟩ := Option.bind_eq_some_iff.mp hd
      obtain ⟨ds', q3, q4⟩ := Option.map_eq_some_iff.mp q2
      subst q4
      cases hf with
      | t h1 h2 => exact .cons (fb (.t _) _ _ μ2 sub h1 q1) (ih _ _ μ2 sub h2 q3)
      | r h1 h2 => exact .cons (fb (.r _) _ _ μ2 sub ⟨_, rfl, h1⟩ q1) (ih _ _ μ2 sub h2 q3)
  have ro : ∀ (f : FB) (u : V) (d : D), (match f with
      | .t d => Rp K F' u d
      | .r j => ∃ a, u = .ref a ∧ μ'[j]? = some a) → roD n S' f = some d → Rp K (fzH ν F' H') u d := by
    intro f u d hf hd
    cases f with
    | t e => cases hd; exact Rp.mono sF hf
    | r k =>
      obtain ⟨a, eu, ha⟩ := hf
      subst eu
      have hd : (if n ≤ k then match S'[k]? with
        | some (.obj x fs) => (fbDs n S' fs).map (D.ins x)
        | _ => none
        else none) = some d := hd
      by_cases l : n ≤ k
      · rw [if_pos l] at hd
        cases q : S'[k]? with
        | none => rw [q] at hd; cases hd
        | some o => cases o with
          | lst _ => rw [q] at hd; cases hd
          | obj y fs =>
            rw [q] at hd
            obtain ⟨ds, q1, q2⟩ := Option.map_eq_some_iff.mp (show (fbDs n S' fs).map (D.ins y) = some d from hd)
            subst q2
            obtain ⟨dx, ws, h1, h2, h3, h4⟩ := r.ob2 k a y fs ha q
            refine .ins (by rw [inn (at_ k a ha l)]; exact h1) (sF _ _ h2) h3 (fbs fs ws ds (μ'.take k) (fun j b e => ?_) h4 q1)
            have lj : j < k := by
              have := (List.getElem?_eq_some_iff.mp e).1
              rw [List.length_take] at this
              omega
            rw [List.getElem?_take_of_lt lj] at e
            exact e
      · rw [if_neg l] at hd; cases hd
  have ros : ∀ (fs : List FB) (us : List V) (ds : List D), FbL K F' μ' us fs → roDs n S' fs = some ds → RpL K (fzH ν F' H') us ds := by
    intro fs
    induction fs with
    | nil =>
      intro us ds hf hd
      cases hf
      cases hd
      exact .nil
    | cons f fs ih =>
      intro us ds hf hd
      rw [roDs] at hd
      obtain ⟨d1, q1, q2⟩ := Option.bind_eq_some_iff.mp hd
      obtain ⟨ds', q3, q4⟩ := Option.map_eq_some_iff.mp q2
      subst q4
      cases hf with
      | t h1 h2 => exact .cons (ro (.t _) _ _ h1 q1) (ih _ _ h2 q3)
      | r h1 h2 => exact .cons (ro (.r _) _ _ ⟨_, rfl, h1⟩ q1) (ih _ _ h2 q3)
  refine ⟨fzH ν F' H', ⟨fun a o e => sF a o (x.fs a o e), fun a g => ?_, x.keep, x.live⟩, rm, ?_⟩
  · rw [out (fun z => g (hν a z))]
    exact x.fn a g
  · obtain ⟨ds, q1, q2⟩ := Option.bind_eq_some_iff.mp h
    cases w with
    | true =>
      obtain ⟨p, vs, ev, hp, fl⟩ := rv
      subst ev
      have q2 : (if ds.length ≤ line then some (D.tup ds) else none) = some d := q2
      by_cases l : ds.length ≤ line
      · rw [if_pos l] at q2
        cases q2
        exact .tup (.inl (.inl (sF _ _ hp))) (ros _ _ _ fl q1)
      · rw [if_neg l] at q2; cases q2
    | false =>
      have rv : FbL K F' μ' [v] es := rv
      have rr := ros _ _ _ rv q1
      cases rr with
      | cons r1 rn =>
        cases rn
        cases q2
        exact r1
end
/-! ### __init__ -/
def osB (M : Ck) (n : Nat) (E : CkE) (fs : List Str) : List (Nat × CE) → List Stmt → Bool
  | [], [] => true
  | (i, c) :: sets, .Assign [.Attribute (.Name z _) f _] v _ :: rest => varB E 0 z && atB fs i f && chkE M n E c v && notComp v && osB M n E fs sets rest
  | _, _ => false
section
variable {M : Ck} {G : Gx} {xc : Nat → Option XCls} {k : Nat} {E : CkE} {X : Cx} {W : WX} {F0 H0 : Hp} {μ : List Addr} {σ : L2.St} {ρ : Env} {x dx C : Addr} {fs : List Str}
theorem os_ok (g : Cg M G xc k E X W) {n : Nat} (er : ER X.K F0 μ H0 ρ σ) (h0 : σ[0]? = some (some (.ref x))) (c : SlX.SCls X.K C) (sl : ∀ (i : Nat) (f : Str), fs[i]? = some f → ∃ p, SlX.Slot1 X.K C f p i) :
    ∀ {sts : List Stmt} {sets : List (Nat × CE)}, osB M n E fs sets sts = true → PSs X sts (tInO X.K xc F0 H0 μ W x dx C σ (evSets G sets ρ)) := by
  intro sts
  induction sts with
  | nil =>
    intro sets h
    unfold osB at h
    split at h
    · exact o_nil
    · rename_i e; cases e
    · cases h
  | cons st rest ih =>
    intro sets h
    unfold osB at h
    split at h
    · rename_i e; cases e
    · rename_i i cc sets' z p f p1 v pos rest' e
      cases e
      obtain ⟨h, h5⟩ := b2a h
      obtain ⟨h, h4⟩ := b2a h
      obtain ⟨h, h3⟩ := b2a h
      obtain ⟨h1, h2⟩ := b2a h
      obtain ⟨pd, s1⟩ := sl _ _ (of_decide_eq_true h2)
      exact o_set er (g.var h1) ((chk_ok M G xc k n).1 E X W _ _ g h3) h0 c s1 (notComp_sw h4) (ih h5)
    · cases h
end
end Zw
set_option Elab.async false
set_option linter.all false
set_option maxRecDepth 100000
/-! Zw13: defs, the module, the law's end. -/
namespace Zw
open PySem PySem.Spec PyProof.Rows L2
/-- one def of the text beside its core -/
structure FnI where
  x : Str
  st : Stmt
  N : List Str
  f : Fn
def FnI.ps (i : FnI) : List Str := (defArgs i.st).args.map (·.arg)
def fnB (M : Ck) (n : Nat) (i : FnI) : Bool := scopeB i.N i.ps (defScope i.st) && decide (i.ps.length = i.f.params) && decide (i.N.length = i.f.slots) && chkSs M n ⟨i.N, defScope i.st, fun _ => true, M.mkr.any fun y => decide (y = i.x)⟩ i.f.body (defBody i.st)
section
variable {K : PySem.W.Frag} {F H : Hp} {μ : List Addr}
theorem BRs.get : ∀ {vs : List V} {bs : List B} {i : Nat} {b : B}, BRs K F μ H vs bs → bs[i]? = some b → ∃ v, vs[i]? = some v ∧ BRp K F μ H v b
  | _, _, _, _, .nil, e => by simp at e
  | _, _, 0, _, .cons h _, e => by simp at e; subst e; exact ⟨_, rfl, h⟩
  | _, _, i + 1, _, .cons _ r, e => by
    obtain ⟨v, h1, h2⟩ := BRs.get (i := i) r (by simpa using e)
    exact ⟨v, by simpa using h1, h2⟩
theorem BRp.par {v : V} {b : B} (h : BRp K F μ H v b) : BRp K F μ H v b.par := by
  cases b <;> exact h
theorem par_own {b : B} : ∀ d, b.par ≠ .own d := by intro d h; cases b <;> cases h
theorem enter_ok {f : Fn} {N : List Str} {vs : List V} {bs : List B} {S : Store} (hN : N.length = f.slots) (hl : bs.length = f.params) (r : Rel K F μ S H) (brs : BRs K F μ H vs bs) : SR K F μ H F μ S H (enter f bs) (L2.start N vs) := by
  have hv := brs.length
  have get : ∀ (i : Nat) (b : B), (enter f bs)[i]? = some (some b) → ∃ b0, bs[i]? = some b0 ∧ b = b0.par := fun i b e => by
    unfold enter at e
    by_cases l : i < bs.length
    · rw [List.getElem?_append_left (by simpa using l), List.getElem?_map] at e
      cases q : bs[i]? with
      | none => rw [q] at e; cases e
      | some b0 =>
        rw [q] at e
        cases e
        exact ⟨b0, rfl, rfl⟩
    · rw [List.getElem?_append_right (by simpa using l), List.getElem?_replicate] at e
      split at e <;> cases e
  refine ⟨r, ⟨?_, fun i b e => ?_, fun i j d d' a _ e _ _ => ?_⟩, Ext.refl _ _ _, ⟨[], by simp, fun a h => absurd h (by simp)⟩, fun i d a e _ => ?_⟩
  · unfold enter L2.start
    simp
    omega
  · obtain ⟨b0, e1, e2⟩ := get i b e
    obtain ⟨v, h1, h2⟩ := brs.get e1
    refine ⟨v, ?_, by rw [e2]; exact h2.par⟩
    unfold L2.start
    have l : i < vs.length := (List.getElem?_eq_some_iff.mp h1).1
    rw [List.getElem?_append_left (by simpa using l), List.getElem?_map, h1]
    rfl
  · obtain ⟨b0, _, e2⟩ := get i _ e
    exact absurd e2.symm (par_own d)
  · obtain ⟨b0, _, e2⟩ := get i _ e
    exact absurd e2.symm (par_own d)
theorem leave_rel {μ' ν : List Addr} {F' H' : Hp} {S S' : Store} (r : Rel K F μ S H) (r' : Rel K F' μ' S' H') (e : μ' = μ ++ ν) : Rel K F' μ (S'.take S.length) H' := by
  have := r'.cut S.length
  rw [e, ← r.len, List.take_left' rfl] at this
  rw [r.len] at this
  exact this
end
section
variable {M : Ck} {G : Gx} {xc : Nat → Option XCls} {P : Program} {w : World} {K : PySem.W.Frag} {mg : Str → Option Value} {base : Heap}
/-- THE RULE for a def -/
theorem fn_run {CX : CXT} {k n : Nat} {i : FnI} {a : Addr} {fd : FuncData} {nm : Str} (FD : FunD K nm i.x (defArgs i.st) (defBody i.st) (defScope i.st) [] [] a fd) (hfa : (M.mkr.any fun y => decide (y = i.x)) = true → He.ga K i.x = a) (hc : fnB M n i = true) (st : Sta M G xc k P w K mg base)
    {A : Around} {outer : List PySem.Env} {s : Shared} {H : Hp} {args : Args} {us : List Value} {vs : List V} {F : Hp} {μ : List Addr} {S : Store} {bs : List B} {Q : VK} {E E' : XK} (hr : Room (k + 1) A) (hgd : A.guards = some []) (e0 : Env0 P w K mg base A outer s H)
    (hb : us.length = i.ps.length → BindsTo s fd args (i.ps.zip us)) (rv : Vals vs us) (rel : Rel K F μ S H) (brs : BRs K F μ H vs bs) (hok : okC K xc μ F H (runF G i.f bs S) Q E')
    (htk : ∀ cdv, Takes (cxOf CX P w K mg base i.N i.x (defScope i.st) a cdv A outer s H E) fun cls d _ H => E' cls d H) :
    codeAny (model P w) A (.call (.ref a) args) (CR CX outer P w H s Q E) s := by
  obtain ⟨hc, h4⟩ := b2a hc
  obtain ⟨hc, h3⟩ := b2a hc
  obtain ⟨h1, h2⟩ := b2a hc
  have SC := scope_ok h1
  have h2 := of_decide_eq_true h2
  have h3 := of_decide_eq_true h3
  unfold runF at hok
  have hl : bs.length = i.f.params := Decidable.byContradiction fun z => by rw [if_neg z] at hok; exact hok.elim
  rw [if_pos hl] at hok
  have hv : vs.length = i.ps.length := by rw [brs.length, hl, h2]
  have hu : us.length = i.ps.length := by rw [← rv.length]; exact hv
  have hb := hb hu
  obtain ⟨oc, od, dV, kV, doc, pm, an, cdv, ct, osl, rfl, lk, hcd, _, _⟩ := FD.ex
  refine LamX.run_ofS (N := i.N) (ps := i.ps) (vs := vs) lk hcd SC hr e0 hb rv hv fun hr' => ⟨tMS K xc (fun cls d _ H => E' cls d H) (execs G i.f.body), ?_, ?_⟩
  · have g : Cg M G xc k ⟨i.N, defScope i.st, fun _ => true, M.mkr.any fun y => decide (y = i.x)⟩ (cxOf CX P w K mg base i.N i.x (defScope i.st) a cdv A outer s H E) (fun cls d _ H => E' cls d H) := by
      refine ⟨rfl, SC.nd, rfl, SC.kind, rfl, hr', hgd, htk cdv, fun _ _ => rfl, st, fun z => ?_⟩
      obtain ⟨y, hy, ey⟩ := List.any_eq_true.mp z
      have ey := of_decide_eq_true ey
      subst ey
      obtain ⟨t1, t2⟩ := st.mkr _ hy
      obtain ⟨c, ec⟩ := He.codeIn_ref hcd
      have e1 : (He.cT K (defn i.x)).1 = c := He.codeOf_eq (p := defn i.x) (by rw [show He.fAd K (defn i.x) = a from hfa z]; exact lk) ec
      have lam : ∃ c P, cdv = .ref c ∧ LamX.TabB base mg c P ∧ (P, i.x ++ (".<locals>." : Str) ++ ("<lambda>" : Str)) ∈ tabT K := ⟨c, (He.cT K (defn i.x)).2, ec, by rw [← e1]; exact t1, t2⟩
      exact lam
    exact (chkS_ok M G xc k _ _ _ g (passes_of rfl) n).2 _ _ h4
  · refine ⟨F, μ, H, F, μ, S, enter i.f bs, enter_ok h3 hl rel brs, ?_⟩
    cases q : execs G i.f.body (enter i.f bs) S with
    | nx ρ' S' =>
      rw [q] at hok
      intro F' μ' H' σ' s'
      obtain ⟨ν, e, _⟩ := s'.pre
      exact hok F' H' .non s'.ext (leave_rel rel s'.rel e) .non trivial
    | rt b S' =>
      rw [q] at hok
      intro F' μ' H' v r' x' ⟨ν, e, hν⟩ bv fr hb
      refine hok F' H' v x' (leave_rel rel r' e) ?_ fr
      cases b with
      | t d => exact bv
      | own d =>
        obtain ⟨c, xs, ds, e1, e2, e3, e4, e5, e6⟩ := bv
        exact ⟨c, xs, ds, e1, e2, e3, e4, e5, fun z => e6 (by rw [e]; exact List.mem_append_left _ z)⟩
      | _ => cases hb
    | ex c p ρ' S' =>
      rw [q] at hok
      intro F' μ' H' σ' cls d s' xr
      obtain ⟨ν, e, _⟩ := s'.pre
      exact hok F' H' cls d s'.ext (leave_rel rel s'.rel e) xr
    | ro es w S' =>
      rw [q] at hok
      intro F' μ' H' v r' x' ⟨ν, e, hν⟩ rv
      have hok : okC K xc μ F H (.of (((roDs S.length S' es).bind (roW w)).map .t) (S'.take S.length)) Q E' := hok
      cases q2 : (roDs S.length S' es).bind (roW w) with
      | none => rw [q2] at hok; exact hok.elim
      | some d =>
        rw [q2] at hok
        obtain ⟨F2, x2, r2, rp⟩ := ro_ok r' x' e hν rv S.length rel.len q2
        exact hok F2 H' v x2 r2 rp trivial
    | bk ρ' S' => rw [q] at hok; exact hok.elim
    | ct ρ' S' => rw [q] at hok; exact hok.elim
    | bad => rw [q] at hok; exact hok.elim
theorem fnC_ok {k n : Nat} {i : FnI} {a : Addr} {fd : FuncData} {nm : Str} (FD : FunD K nm i.x (defArgs i.st) (defBody i.st) (defScope i.st) [] [] a fd) (hfa : (M.mkr.any fun y => decide (y = i.x)) = true → He.ga K i.x = a) (hc : fnB M n i = true) (st : Sta M G xc k P w K mg base)
    (hb : ∀ (s : Shared) (us : List Value), us.length = i.ps.length → BindsTo s fd ⟨us, []⟩ (i.ps.zip us)) : FnC P w K mg base xc (k + 1) a (runF G i.f) :=
  ⟨fun A outer s H us vs F μ S bs Q E hr hgd e0 rv rel brs hok => fn_run FD hfa hc st hr hgd e0 (hb s us) rv rel brs hok fun cdv => takes_of rfl rfl rfl rfl⟩
end
/-! ### classes with slots -/
/-- one class: its __init__, its slots, the core -/
structure InI where
  x : Str
  st : Stmt
  N : List Str
  fs : List Str
  i : In
def InI.ps (i : InI) : List Str := (defArgs i.st).args.map (·.arg)
def inIB (M : Ck) (n : Nat) (i : InI) : Bool := scopeB i.N i.ps (defScope i.st) && decide (i.ps.length = i.i.params + 1) && decide (i.N.length = i.i.slots) && decide (i.i.x = i.x) && (M.slc.any fun p => decide (p = (i.x, i.fs))) && inB M n ⟨i.N, defScope i.st, fun _ => true, false⟩ i.fs i.i.pre i.i.sets (defBody i.st)
theorem enterI_ok {K : PySem.W.Frag} {F H : Hp} {μ : List Addr} {i : In} {N : List Str} {vs : List V} {bs : List B} {x : Addr} (hN : N.length = i.slots) (hp : i.params + 1 ≤ N.length) (hl : bs.length = i.params) (brs : BRs K F μ H vs bs) : ER K F μ H (enterI i bs) (L2.start N (.ref x :: vs)) := by
  have hv := brs.length
  have get : ∀ (j : Nat) (b : B), (enterI i bs)[j]? = some (some b) → ∃ j' b0, j = j' + 1 ∧ bs[j']? = some b0 ∧ b = b0.par := fun j b e => by
    unfold enterI at e
    cases j with
    | zero => cases e
    | succ j =>
      rw [List.getElem?_cons_succ] at e
      by_cases l : j < bs.length
      · rw [List.getElem?_append_left (by simpa using l), List.getElem?_map] at e
        cases q : bs[j]? with
        | none => rw [q] at e; cases e
        | some b0 =>
          rw [q] at e
          cases e
          exact ⟨j, b0, rfl, q, rfl⟩
      · rw [List.getElem?_append_right (by simpa using l), List.getElem?_replicate] at e
        split at e <;> cases e
  refine ⟨?_, fun j b e => ?_, fun j j2 d d' a _ e _ _ => ?_⟩
  · unfold enterI L2.start
    simp
    omega
  · obtain ⟨j', b0, rfl, e1, e2⟩ := get j b e
    obtain ⟨v, h1, h2⟩ := brs.get e1
    refine ⟨v, ?_, by rw [e2]; exact h2.par⟩
    unfold L2.start
    have l : j' < vs.length := (List.getElem?_eq_some_iff.mp h1).1
    rw [List.getElem?_append_left (by simpa using l), List.getElem?_map, List.getElem?_cons_succ, h1]
    rfl
  · obtain ⟨j', b0, _, _, e2⟩ := get j _ e
    exact absurd e2.symm (par_own d)
section
variable {M : Ck} {G : Gx} {xc : Nat → Option XCls} {P : Program} {w : World} {K : PySem.W.Frag} {mg : Str → Option Value} {base : Heap}
/-- C(..) -/
theorem new_ok {k n : Nat} {i : InI} {fI : Addr} {fd : FuncData} (MK : Mk K (He.ga K i.x) fI) (FD : FunD K "__init__" (i.x ++ (".__init__" : Str)) (defArgs i.st) (defBody i.st) (defScope i.st) [] [] fI fd) (hc : inIB M n i = true) (st : Sta M G xc k P w K mg base)
    (hb : ∀ (s : Shared) (us : List Value), us.length = i.ps.length → BindsTo s fd ⟨us, []⟩ (i.ps.zip us)) : CalC P w K mg base xc (k + 2) (He.ga K i.x) (runI G i.i) := by
  obtain ⟨hc, h6⟩ := b2a hc
  obtain ⟨hc, h5⟩ := b2a hc
  obtain ⟨hc, h4⟩ := b2a hc
  obtain ⟨hc, h3⟩ := b2a hc
  obtain ⟨h1, h2⟩ := b2a hc
  have SC := scope_ok h1
  have h2 := of_decide_eq_true h2
  have h3 := of_decide_eq_true h3
  have h4 := of_decide_eq_true h4
  obtain ⟨pq, hpq, epq⟩ := List.any_eq_true.mp h5
  have epq := of_decide_eq_true epq
  have so := st.slc pq hpq
  rw [epq] at so
  have hpN : i.ps.length ≤ i.N.length := by
    have e := congrArg List.length SC.pre
    rw [List.length_take] at e
    omega
  constructor
  intro X W pins σ s H us vs F μ S bs Q e1 e2 e3 e4 e5 hr hgd tk I rv rel brs hok
  subst e1 e2 e3 e4 e5
  unfold runI at hok
  have hl : bs.length = i.i.params := Decidable.byContradiction fun z => by rw [if_neg z] at hok; exact hok.elim
  rw [if_pos hl] at hok
  have hv : vs.length = bs.length := brs.length
  have hu : us.length = vs.length := rv.length.symm
  have I2 := Inv.made (C := He.ga X.K i.x) I
  have hx : H (s.heap.objs.size + 1) = none := I.hok.fresh (Nat.le_succ _)
  have hd : H s.heap.objs.size = none := I.hok.fresh (Nat.le_refl _)
  have ne : s.heap.objs.size ≠ s.heap.objs.size + 1 := Nat.ne_of_lt (Nat.lt_succ_self _)
  obtain ⟨oc, od, dV, kV, doc, pm, an, cdv, ct, osl, rfl, lk, hcd, _, _⟩ := FD.ex
  have n1 : NT (.own (s.heap.objs.size + 1)) := fun _ z => by cases z
  have n2 : NT (.ins (He.ga X.K i.x) s.heap.objs.size []) := fun _ z => by cases z
  have hx1 : upd H s.heap.objs.size (.own (s.heap.objs.size + 1)) (s.heap.objs.size + 1) = none := by rw [upd_ne (Ne.symm ne)]; exact hx
  have m0 : MS X.K F H μ F (upd (upd H s.heap.objs.size (.own (s.heap.objs.size + 1))) (s.heap.objs.size + 1) (.ins (He.ga X.K i.x) s.heap.objs.size [])) S (s.heap.objs.size + 1) s.heap.objs.size (He.ga X.K i.x) [] [] :=
    ⟨(rel.newOwn hd).newOwn hx1, (Ext.newOwn hd n1).trans (Ext.newOwn hx1 n2), .inl ⟨upd_same, rfl⟩, ⟨_, by rw [upd_ne ne, upd_same], pl_own⟩, .nil, .of hx, .of hd, (rel.out (.of hx)).1, (rel.out (.of hd)).1, (rel.out (.of hx)).2, (rel.out (.of hd)).2, ne⟩
  have hlen : (Value.ref (s.heap.objs.size + 1) :: us).length = i.ps.length := by simp; omega
  have er : ER X.K F μ H (enterI i.i bs) (L2.start i.N (.ref (s.heap.objs.size + 1) :: vs)) := enterI_ok h3 (by omega) hl brs
  have h0 : (L2.start i.N (V.ref (s.heap.objs.size + 1) :: vs))[0]? = some (some (.ref (s.heap.objs.size + 1))) := by simp [L2.start]
  have body : Room k ((X.A.under (.builtin "type.__call__" ⟨.ref (He.ga X.K i.x) :: us, []⟩)).deeper (envOfC (i.x ++ (".__init__" : Str)) (defScope i.st) ({ s with heap := (s.heap.push PySem.W.emptyDict).push (PySem.W.instObj (He.ga X.K i.x) s.heap.objs.size) } : Shared).heap.objs.size fI cdv)) → PSs (cxOf (L2.CX X.prog X.w) X.prog X.w X.K X.mg X.base i.N (i.x ++ (".__init__" : Str)) (defScope i.st) fI cdv (X.A.under (.builtin "type.__call__" ⟨.ref (He.ga X.K i.x) :: us, []⟩)) X.stack { s with heap := (s.heap.push PySem.W.emptyDict).push (PySem.W.instObj (He.ga X.K i.x) s.heap.objs.size) } (upd (upd H s.heap.objs.size (.own (s.heap.objs.size + 1))) (s.heap.objs.size + 1) (.ins (He.ga X.K i.x) s.heap.objs.size [])) (fun cls d H' => W cls d σ H')) (defBody i.st) (tIn X.K xc F H μ (fun cls d _ H => W cls d σ H) (s.heap.objs.size + 1) s.heap.objs.size (He.ga X.K i.x) (L2.start i.N (.ref (s.heap.objs.size + 1) :: vs)) (semI G i.i.pre i.i.sets (enterI i.i bs))) := fun hr' => by
    have gZ : Cg M G xc k ⟨i.N, defScope i.st, fun _ => true, false⟩ (cxOf (L2.CX X.prog X.w) X.prog X.w X.K X.mg X.base i.N (i.x ++ (".__init__" : Str)) (defScope i.st) fI cdv (X.A.under (.builtin "type.__call__" ⟨.ref (He.ga X.K i.x) :: us, []⟩)) X.stack { s with heap := (s.heap.push PySem.W.emptyDict).push (PySem.W.instObj (He.ga X.K i.x) s.heap.objs.size) } (upd (upd H s.heap.objs.size (.own (s.heap.objs.size + 1))) (s.heap.objs.size + 1) (.ins (He.ga X.K i.x) s.heap.objs.size [])) (fun cls d H' => W cls d σ H')) (fun cls d _ H => W cls d σ H) :=
      ⟨rfl, SC.nd, rfl, SC.kind, rfl, hr', hgd, takes_of rfl rfl rfl rfl, fun _ _ => rfl, st, fun z => nomatch (show false = true from z)⟩
    exact in_ok gZ er h0 so.sl.cls so.slot h6
  have ini : (tIn X.K xc F H μ (fun cls d _ H => W cls d σ H) (s.heap.objs.size + 1) s.heap.objs.size (He.ga X.K i.x) (L2.start i.N (.ref (s.heap.objs.size + 1) :: vs)) (semI G i.i.pre i.i.sets (enterI i.i bs))) ({ nx := fun _ H' => V.non = V.non ∧ Q (V.ref (s.heap.objs.size + 1)) H', rt := fun v H' => v = V.non ∧ Q (V.ref (s.heap.objs.size + 1)) H' } : Ends) (L2.start i.N (.ref (s.heap.objs.size + 1) :: vs)) (upd (upd H s.heap.objs.size (.own (s.heap.objs.size + 1))) (s.heap.objs.size + 1) (.ins (He.ga X.K i.x) s.heap.objs.size [])) := by
    refine ⟨rfl, F, S, [], [], m0, ?_⟩
    unfold semI
    cases q : evPre G i.i.pre (enterI i.i bs) S with
    | bad => rw [q] at hok; exact hok.elim
    | ex c p S1 =>
      rw [q] at hok
      exact fun F' H' vs' os cls d m xr => hok F' H' cls d m.ext m.rel xr
    | ok b S1 =>
      rw [q] at hok
      have hok : okC X.K xc μ F H (match (runSets i.i.sets (enterI i.i bs) []).bind allO with
        | some (d :: ds) => .ok (.t (.ins i.i.x (d :: ds))) S1
        | _ => .bad) Q (fun cls d H' => W cls d σ H') := hok
      show okIn X.K xc F H μ (fun cls d _ H => W cls d σ H) (s.heap.objs.size + 1) s.heap.objs.size (He.ga X.K i.x) ({ nx := fun _ H' => V.non = V.non ∧ Q (V.ref (s.heap.objs.size + 1)) H', rt := fun v H' => v = V.non ∧ Q (V.ref (s.heap.objs.size + 1)) H' } : Ends) (L2.start i.N (.ref (s.heap.objs.size + 1) :: vs)) (.of (runSets i.i.sets (enterI i.i bs) []) S1)
      cases q2 : runSets i.i.sets (enterI i.i bs) [] with
      | none => rw [q2] at hok; exact hok.elim
      | some os =>
        rw [q2] at hok
        intro F' H' vs' m
        have hok : okC X.K xc μ F H (match allO os with
          | some (d :: ds) => .ok (.t (.ins i.i.x (d :: ds))) S1
          | _ => .bad) Q (fun cls d H' => W cls d σ H') := hok
        cases q3 : allO os with
        | none => rw [q3] at hok; exact hok.elim
        | some ds =>
          cases ds with
          | nil => rw [q3] at hok; exact hok.elim
          | cons d ds =>
            rw [q3, h4] at hok
            obtain ⟨F2, x2, r2, rp⟩ := m.done (ws := []) (by simp) so.sl q3
            exact ⟨rfl, hok F2 H' _ x2 r2 rp trivial⟩
  have run := LamX.run_ofS (CX := L2.CX X.prog X.w) (P := X.prog) (w := X.w) (mg := X.mg) (base := X.base) (N := i.N) (ps := i.ps) (args := ⟨.ref (s.heap.objs.size + 1) :: us, []⟩) (us := .ref (s.heap.objs.size + 1) :: us) (vs := .ref (s.heap.objs.size + 1) :: vs)
    (Q := fun v H2 => v = .non ∧ Q (.ref (s.heap.objs.size + 1)) H2) (E := fun cls d H' => W cls d σ H') lk hcd SC (hr.make (He.ga X.K i.x) us []) (I2.env0.make (He.ga X.K i.x) us []) (hb _ _ hlen) (.cons rfl rv) (by rw [← hlen]; simp [hu]) fun hr' => ⟨_, body hr', ini⟩
  refine wpAny_call (make_map (f := fI) I.kIn MK.makes MK.init (beq_iff_eq.mp MK.fn) (codeAny_mono run fun r s' hq' => ?_))
  cases r with
  | error e => exact tk e s' (XE.of_call I2 (fun cls d H' h => h) hq')
  | ok fl =>
    cases fl with
    | ret u =>
      obtain ⟨v, H', I3, rv', ev, q3⟩ := I2.after hq'
      subst ev
      exact ⟨rv', ⟨V.ref (s.heap.objs.size + 1), H', I3, rfl, q3⟩⟩
    | next => exact False.elim hq'
    | brk => exact False.elim hq'
    | cont => exact False.elim hq'
end
/-! ### classes whose instances change -/
structure ObI where
  x : Str
  st : Stmt
  N : List Str
  fs : List Str
  o : Ob
def ObI.ps (i : ObI) : List Str := (defArgs i.st).args.map (·.arg)
def obIB (M : Ck) (n : Nat) (i : ObI) : Bool := scopeB i.N i.ps (defScope i.st) && decide (i.ps.length = i.o.params + 1) && decide (i.N.length = i.o.slots) && decide (i.o.x = i.x) && (M.slc.any fun p => decide (p = (i.x, i.fs))) && osB M n ⟨i.N, defScope i.st, fun _ => true, false⟩ i.fs i.o.sets (defBody i.st)
section
variable {M : Ck} {G : Gx} {xc : Nat → Option XCls} {P : Program} {w : World} {K : PySem.W.Frag} {mg : Str → Option Value} {base : Heap}
/-- C(..) -/
theorem newO_ok {k n : Nat} {i : ObI} {fI : Addr} {fd : FuncData} (MK : Mk K (He.ga K i.x) fI) (FD : FunD K "__init__" (i.x ++ (".__init__" : Str)) (defArgs i.st) (defBody i.st) (defScope i.st) [] [] fI fd) (hc : obIB M n i = true) (st : Sta M G xc k P w K mg base)
    (hb : ∀ (s : Shared) (us : List Value), us.length = i.ps.length → BindsTo s fd ⟨us, []⟩ (i.ps.zip us)) : NewC P w K mg base xc (k + 2) (He.ga K i.x) i.x (runO G i.o) := by
  obtain ⟨hc, h6⟩ := b2a hc
  obtain ⟨hc, h5⟩ := b2a hc
  obtain ⟨hc, h4⟩ := b2a hc
  obtain ⟨hc, h3⟩ := b2a hc
  obtain ⟨h1, h2⟩ := b2a hc
  have SC := scope_ok h1
  have h2 := of_decide_eq_true h2
  have h3 := of_decide_eq_true h3
  have h4 := of_decide_eq_true h4
  obtain ⟨pq, hpq, epq⟩ := List.any_eq_true.mp h5
  have epq := of_decide_eq_true epq
  have so := st.slc pq hpq
  rw [epq] at so
  have hpN : i.ps.length ≤ i.N.length := by
    have e := congrArg List.length SC.pre
    rw [List.length_take] at e
    omega
  constructor
  intro X W pins σ s H us vs F μ S bs Q e1 e2 e3 e4 e5 hr hgd tk I rv rel brs hok
  subst e1 e2 e3 e4 e5
  unfold runO at hok
  have hl : bs.length = i.o.params := Decidable.byContradiction fun z => by rw [if_neg z] at hok; exact hok.elim
  rw [if_pos hl] at hok
  have hv : vs.length = bs.length := brs.length
  have hu : us.length = vs.length := rv.length.symm
  have I2 := Inv.made (C := He.ga X.K i.x) I
  have hx : H (s.heap.objs.size + 1) = none := I.hok.fresh (Nat.le_succ _)
  have hd : H s.heap.objs.size = none := I.hok.fresh (Nat.le_refl _)
  have ne : s.heap.objs.size ≠ s.heap.objs.size + 1 := Nat.ne_of_lt (Nat.lt_succ_self _)
  obtain ⟨oc, od, dV, kV, doc, pm, an, cdv, ct, osl, rfl, lk, hcd, _, _⟩ := FD.ex
  have n1 : NT (.own (s.heap.objs.size + 1)) := fun _ z => by cases z
  have n2 : NT (.ins (He.ga X.K i.x) s.heap.objs.size []) := fun _ z => by cases z
  have hx1 : upd H s.heap.objs.size (.own (s.heap.objs.size + 1)) (s.heap.objs.size + 1) = none := by rw [upd_ne (Ne.symm ne)]; exact hx
  have m0 : MO X.K F H μ F (upd (upd H s.heap.objs.size (.own (s.heap.objs.size + 1))) (s.heap.objs.size + 1) (.ins (He.ga X.K i.x) s.heap.objs.size [])) S (s.heap.objs.size + 1) s.heap.objs.size (He.ga X.K i.x) [] [] :=
    ⟨(rel.newOwn hd).newOwn hx1, (Ext.newOwn hd n1).trans (Ext.newOwn hx1 n2), .inl ⟨upd_same, rfl⟩, ⟨_, by rw [upd_ne ne, upd_same], pl_own, fun _ z => by cases z⟩, ⟨rfl, fun _ _ z => by simp at z, fun _ _ _ _ _ _ z => by simp at z⟩, .of hx, .of hd, (rel.out (.of hx)).1, (rel.out (.of hd)).1, (rel.out (.of hx)).2, (rel.out (.of hd)).2, ne⟩
  have hlen : (Value.ref (s.heap.objs.size + 1) :: us).length = i.ps.length := by simp; omega
  have er : ER X.K F μ H (enterO i.o bs) (L2.start i.N (.ref (s.heap.objs.size + 1) :: vs)) := enterI_ok (i := ⟨i.o.x, i.o.params, i.o.slots, [], []⟩) h3 (by show i.o.params + 1 ≤ _; omega) hl brs
  have h0 : (L2.start i.N (V.ref (s.heap.objs.size + 1) :: vs))[0]? = some (some (.ref (s.heap.objs.size + 1))) := by simp [L2.start]
  have body : Room k ((X.A.under (.builtin "type.__call__" ⟨.ref (He.ga X.K i.x) :: us, []⟩)).deeper (envOfC (i.x ++ (".__init__" : Str)) (defScope i.st) ({ s with heap := (s.heap.push PySem.W.emptyDict).push (PySem.W.instObj (He.ga X.K i.x) s.heap.objs.size) } : Shared).heap.objs.size fI cdv)) → PSs (cxOf (L2.CX X.prog X.w) X.prog X.w X.K X.mg X.base i.N (i.x ++ (".__init__" : Str)) (defScope i.st) fI cdv (X.A.under (.builtin "type.__call__" ⟨.ref (He.ga X.K i.x) :: us, []⟩)) X.stack { s with heap := (s.heap.push PySem.W.emptyDict).push (PySem.W.instObj (He.ga X.K i.x) s.heap.objs.size) } (upd (upd H s.heap.objs.size (.own (s.heap.objs.size + 1))) (s.heap.objs.size + 1) (.ins (He.ga X.K i.x) s.heap.objs.size [])) (fun cls d H' => W cls d σ H')) (defBody i.st) (tInO X.K xc F H μ (fun cls d _ H => W cls d σ H) (s.heap.objs.size + 1) s.heap.objs.size (He.ga X.K i.x) (L2.start i.N (.ref (s.heap.objs.size + 1) :: vs)) (evSets G i.o.sets (enterO i.o bs))) := fun hr' => by
    have gZ : Cg M G xc k ⟨i.N, defScope i.st, fun _ => true, false⟩ (cxOf (L2.CX X.prog X.w) X.prog X.w X.K X.mg X.base i.N (i.x ++ (".__init__" : Str)) (defScope i.st) fI cdv (X.A.under (.builtin "type.__call__" ⟨.ref (He.ga X.K i.x) :: us, []⟩)) X.stack { s with heap := (s.heap.push PySem.W.emptyDict).push (PySem.W.instObj (He.ga X.K i.x) s.heap.objs.size) } (upd (upd H s.heap.objs.size (.own (s.heap.objs.size + 1))) (s.heap.objs.size + 1) (.ins (He.ga X.K i.x) s.heap.objs.size [])) (fun cls d H' => W cls d σ H')) (fun cls d _ H => W cls d σ H) :=
      ⟨rfl, SC.nd, rfl, SC.kind, rfl, hr', hgd, takes_of rfl rfl rfl rfl, fun _ _ => rfl, st, fun z => nomatch (show false = true from z)⟩
    exact os_ok gZ er h0 so.sl.cls so.slot h6
  have ini : (tInO X.K xc F H μ (fun cls d _ H => W cls d σ H) (s.heap.objs.size + 1) s.heap.objs.size (He.ga X.K i.x) (L2.start i.N (.ref (s.heap.objs.size + 1) :: vs)) (evSets G i.o.sets (enterO i.o bs))) ({ nx := fun _ H' => V.non = V.non ∧ Q (V.ref (s.heap.objs.size + 1)) H', rt := fun v H' => v = V.non ∧ Q (V.ref (s.heap.objs.size + 1)) H' } : Ends) (L2.start i.N (.ref (s.heap.objs.size + 1) :: vs)) (upd (upd H s.heap.objs.size (.own (s.heap.objs.size + 1))) (s.heap.objs.size + 1) (.ins (He.ga X.K i.x) s.heap.objs.size [])) := by
    refine ⟨rfl, F, S, [], [], m0, ?_⟩
    cases q : evSets G i.o.sets (enterO i.o bs) [] S with
    | bad => rw [q] at hok; exact hok.elim
    | ex c p S1 =>
      rw [q] at hok
      exact fun F' H' vs' os cls d m xr => hok F' H' cls d m.ext m.rel xr
    | ok os S1 =>
      rw [q] at hok
      have hok : okNw X.K xc μ F H (match allO os with
        | some (q :: qs) => .ok (q :: qs) S1
        | _ => .bad) i.x Q (fun cls d H' => W cls d σ H') := hok
      intro F' H' vs' m
      cases q3 : allO os with
      | none => rw [q3] at hok; exact hok.elim
      | some ds =>
        cases ds with
        | nil => rw [q3] at hok; exact hok.elim
        | cons d ds =>
          rw [q3] at hok
          obtain ⟨F2, x2, r2, nw⟩ := m.done (by simp) so.sl q3
          exact ⟨rfl, hok F2 H' _ x2 r2 nw⟩
  have run := LamX.run_ofS (CX := L2.CX X.prog X.w) (P := X.prog) (w := X.w) (mg := X.mg) (base := X.base) (N := i.N) (ps := i.ps) (args := ⟨.ref (s.heap.objs.size + 1) :: us, []⟩) (us := .ref (s.heap.objs.size + 1) :: us) (vs := .ref (s.heap.objs.size + 1) :: vs)
    (Q := fun v H2 => v = .non ∧ Q (.ref (s.heap.objs.size + 1)) H2) (E := fun cls d H' => W cls d σ H') lk hcd SC (hr.make (He.ga X.K i.x) us []) (I2.env0.make (He.ga X.K i.x) us []) (hb _ _ hlen) (.cons rfl rv) (by rw [← hlen]; simp [hu]) fun hr' => ⟨_, body hr', ini⟩
  refine wpAny_call (make_map (f := fI) I.kIn MK.makes MK.init (beq_iff_eq.mp MK.fn) (codeAny_mono run fun r s' hq' => ?_))
  cases r with
  | error e => exact tk e s' (XE.of_call I2 (fun cls d H' h => h) hq')
  | ok fl =>
    cases fl with
    | ret u =>
      obtain ⟨v, H', I3, rv', ev, q3⟩ := I2.after hq'
      subst ev
      exact ⟨rv', ⟨V.ref (s.heap.objs.size + 1), H', I3, rfl, q3⟩⟩
    | next => exact False.elim hq'
    | brk => exact False.elim hq'
    | cont => exact False.elim hq'
end
/-- a method: its class, its name; the def, named in full -/
structure MtI where
  c : Str
  m : Str
  i : FnI
def mtB (M : Ck) (n : Nat) (i : MtI) : Bool := fnB M n i.i && !(M.mkr.any fun y => decide (y = i.i.x))
/-! ### the module -/
/-- a def that calls what it gets -/
structure TlI where
  x : Str
  st : Stmt
  tl : Tl
/-- a def that looks for the first odd item -/
structure OdI where
  x : Str
  st : Stmt
/-- an exception that keeps something: its __init__, its base -/
structure ExI where
  x : Str
  f : Str
  st : Stmt
  base : Nat
structure Lw where
  ck : Ck
  gcs : List D
  fns : List FnI
  sub : Nat → Nat → Bool := fun _ _ => false
  tls : List TlI := []
  inis : List InI := []
  ods : List OdI := []
  exs : List ExI := []
  file : String := ""
  mts : List MtI := []
  obs : List ObI := []
  gds : List (List Str × List D) := []
/-- the classes that keep something are told of -/
def Lw.exB (L : Lw) : Bool := (L.exs.all fun i => Zw.exB i.f i.st) && L.ck.clm.zipIdx.all fun p => match L.ck.attr p.2 with
  | none => true
  | some f => L.exs.any fun i => decide (i.x = p.1) && decide (i.f = f)
def Lw.md (L : Lw) : Md := ⟨L.gcs, L.fns.map (·.f), L.sub, L.tls.map (·.tl), L.inis.map (·.i), L.mts.map (·.i.f), L.obs.map (·.o), L.gds⟩
def Lw.gx (L : Lw) (n : Nat) : Gx := L.md.gx n
/-- a class below one that keeps f keeps f -/
def Lw.satB (L : Lw) : Bool := (List.range L.ck.clm.length).all fun c => (List.range L.ck.clm.length).all fun h => !L.sub c h || match L.ck.attr h with
  | none => true
  | some f => decide (L.ck.attr c = some f)
/-- the check of methods and of classes whose instances change -/
def Lw.ok2 (L : Lw) (n : Nat) : Bool := (L.mts.all (mtB L.ck n)) && decide (L.mts.map (fun i => (i.c, i.m)) = L.ck.mtm) && (L.obs.all (obIB L.ck n)) && decide (L.obs.map (·.x) = L.ck.obm)
/-- the check, but for these -/
def Lw.ok1 (L : Lw) (n : Nat) : Bool := (L.fns.all (fnB L.ck n)) && decide (L.fns.map (·.x) ++ L.inis.map (·.x) = L.ck.fnm) && (L.tls.all fun t => tlB L.ck t.tl t.st) && decide (L.tls.map (·.x) = L.ck.tlm) &&
  (L.inis.all (inIB L.ck n)) && (L.ods.all fun t => odB L.ck t.st) && decide (L.ods.map (·.x) = L.ck.odm) && L.satB && L.exB
/-- the check, all of it -/
def Lw.ok (L : Lw) (n : Nat) : Bool := L.ok2 n && L.ok1 n
/-- parameters are bound one by one -/
structure Lw.Binds (L : Lw) : Prop where
  fns : ∀ i ∈ L.fns, ∀ (kV doc pm : Value) (an : Option Addr) (cdv ct : Value) (us : List Value), us.length = i.ps.length → bindArgs (PySem.W.fnOf i.x i.x (defArgs i.st) (defBody i.st) (defScope i.st) .none kV doc pm an cdv ct) ⟨us, []⟩ = pure (i.ps.zip us)
  tls : ∀ t ∈ L.tls, ParB t.x t.st
  inis : ∀ i ∈ L.inis, ∀ (kV doc pm : Value) (an : Option Addr) (cdv ct : Value) (us : List Value), us.length = i.ps.length → bindArgs (PySem.W.fnOf "__init__" (i.x ++ (".__init__" : Str)) (defArgs i.st) (defBody i.st) (defScope i.st) .none kV doc pm an cdv ct) ⟨us, []⟩ = pure (i.ps.zip us)
  ods : ∀ t ∈ L.ods, ParN t.x t.st
  mts : ∀ i ∈ L.mts, ∀ (kV doc pm : Value) (an : Option Addr) (cdv ct : Value) (us : List Value), us.length = i.i.ps.length → bindArgs (PySem.W.fnOf i.m i.i.x (defArgs i.i.st) (defBody i.i.st) (defScope i.i.st) .none kV doc pm an cdv ct) ⟨us, []⟩ = pure (i.i.ps.zip us)
  obs : ∀ i ∈ L.obs, ∀ (kV doc pm : Value) (an : Option Addr) (cdv ct : Value) (us : List Value), us.length = i.ps.length → bindArgs (PySem.W.fnOf "__init__" (i.x ++ (".__init__" : Str)) (defArgs i.st) (defBody i.st) (defScope i.st) .none kV doc pm an cdv ct) ⟨us, []⟩ = pure (i.ps.zip us)
/-- what the head tells -/
structure HeadOk (P : Program) (w : World) (L : Lw) (K : PySem.W.Frag) (mg : Str → Option Value) (base : Heap) : Prop where
  fns : ∀ i ∈ L.fns, ∃ fd, mg i.x = some (.ref (He.ga K i.x)) ∧ FunD K i.x i.x (defArgs i.st) (defBody i.st) (defScope i.st) [] [] (He.ga K i.x) fd
  gcs : ∀ (g : Nat) (x : Str) (d : D), L.ck.gcn[g]? = some x → L.gcs[g]? = some d → ∃ v u, mg x = some u ∧ RelV v u ∧ ∀ F, Rp K F v d
  free : ∀ x ∈ L.ck.free, mg x = none
  gcd : L.ck.gcd = true → mg "gcd" = some (.builtin "math.gcd")
  cls : ∀ (c : Nat) (x : Str), L.ck.clm[c]? = some x → ClsX P K mg x (L.ck.attr c)
  sub : ∀ (c h : Nat) (x y : Str), L.ck.clm[c]? = some x → L.ck.clm[h]? = some y → PySem.W.exmOne K (.ref (He.ga K x)) (.ref (He.ga K y)) = some (L.sub c h)
  tls : ∀ i ∈ L.tls, ∃ fd, mg i.x = some (.ref (He.ga K i.x)) ∧ FunD K i.x i.x (defArgs i.st) (defBody i.st) (defScope i.st) [] [] (He.ga K i.x) fd
  mkr : ∀ x ∈ L.ck.mkr, LamX.TabB base mg (He.cT K (defn x)).1 (He.cT K (defn x)).2 ∧ ((He.cT K (defn x)).2, x ++ (".<locals>." : Str) ++ ("<lambda>" : Str)) ∈ tabT K
  tnd : ∀ p ∈ tabT K, ∀ q ∈ tabT K, p.1 = q.1 → p.2 = q.2
  slc : ∀ p ∈ L.ck.slc, SlcOk K mg p.1 p.2
  ods : ∀ i ∈ L.ods, ∃ fd, mg i.x = some (.ref (He.ga K i.x)) ∧ FunD K i.x i.x (defArgs i.st) (defBody i.st) (defScope i.st) [] [] (He.ga K i.x) fd
  inis : ∀ i ∈ L.inis, ∃ fI fd, mg i.x = some (.ref (He.ga K i.x)) ∧ Mk K (He.ga K i.x) fI ∧ FunD K "__init__" (i.x ++ (".__init__" : Str)) (defArgs i.st) (defBody i.st) (defScope i.st) [] [] fI fd
  mts : ∀ i ∈ L.mts, ∃ g fd, Meth K (He.ga K i.c) i.m g ∧ FunD K i.m i.i.x (defArgs i.i.st) (defBody i.i.st) (defScope i.i.st) [] [] g fd
  obs : ∀ i ∈ L.obs, ∃ fI fd, mg i.x = some (.ref (He.ga K i.x)) ∧ Mk K (He.ga K i.x) fI ∧ FunD K "__init__" (i.x ++ (".__init__" : Str)) (defArgs i.st) (defBody i.st) (defScope i.st) [] [] fI fd
  gds : ∀ (g : Nat) (x : Str), L.ck.gdn[g]? = some x → ∃ a, mg x = some (.ref a) ∧ (∃ es n, KDict K w a es n) ∧ ∀ ks vs, L.gds[g]? = some (ks, vs) → GdOk K w a ks vs
/-- the exceptions' classes -/
def Lw.xc (L : Lw) (K : PySem.W.Frag) : Nat → Option XCls := fun c => (L.ck.clm[c]?).map fun x => ⟨.ref (He.ga K x), L.ck.attr c⟩
section
variable {L : Lw} {P : Program} {w : World} {K : PySem.W.Frag} {mg : Str → Option Value} {base : Heap}
theorem sta_ok {m : Nat} (hc : L.ok m = true) (hB : L.Binds) (hd : HeadOk P w L K mg base) : ∀ n, Sta L.ck (L.gx n) (L.xc K) n P w K mg base := by
  obtain ⟨hn, hc⟩ := b2a hc
  obtain ⟨hn, g4⟩ := b2a hn
  obtain ⟨hn, g3⟩ := b2a hn
  obtain ⟨g1, g2⟩ := b2a hn
  have g2 := of_decide_eq_true g2
  have g4 := of_decide_eq_true g4
  obtain ⟨hc, _⟩ := b2a hc
  obtain ⟨hc, h8⟩ := b2a hc
  obtain ⟨hc, h7⟩ := b2a hc
  obtain ⟨hc, h6⟩ := b2a hc
  obtain ⟨hc, h5⟩ := b2a hc
  obtain ⟨hc, h4⟩ := b2a hc
  obtain ⟨hc, h3⟩ := b2a hc
  obtain ⟨h1, h2⟩ := b2a hc
  have h2 := of_decide_eq_true h2
  have h4 := of_decide_eq_true h4
  have h7 := of_decide_eq_true h7
  have lt_of : ∀ {xs : List Str} {c : Nat} {x : Str}, xs[c]? = some x → c ∈ List.range xs.length := fun {xs c x} e => List.mem_range.mpr (List.getElem?_eq_some_iff.mp e).1
  have sat : ∀ (c h : Nat) (x y f : Str), L.ck.clm[c]? = some x → L.ck.clm[h]? = some y → L.sub c h = true → L.ck.attr h = some f → L.ck.attr c = some f := fun c h x y f e1 e2 e3 e4 => by
    have z := List.all_eq_true.mp (List.all_eq_true.mp h8 c (lt_of e1)) h (lt_of e2)
    rw [e3, e4] at z
    exact of_decide_eq_true z
  -- all of it but the functions
  have mkG : ∀ (Gm : Gx) (n : Nat), Gm.gc = (fun g => L.gcs[g]?) → Gm.sub = L.sub → Gm.gd = (fun g => L.gds[g]?) → (∀ t tl, Gm.tl t = some tl → 2 ≤ n ∧ (L.tls.map (·.tl))[t]? = some tl) → (Gm.od = true → 2 ≤ n) →
      (∀ (f : Nat) (x : Str), L.ck.fnm[f]? = some x → ∃ a, mg x = some (.ref a) ∧ PySem.W.keepIn K (.ref a) = true ∧ CalC P w K mg base (L.xc K) n a (Gm.fn f)) →
      (∀ (j : Nat), n = j + 2 → ∀ (f : Nat) (x : Str), L.ck.fnm[f]? = some x → ∃ a, mg x = some (.ref a) ∧ PySem.W.keepIn K (.ref a) = true ∧ CalC P w K mg base (L.xc K) j a (Gm.fn2 f)) →
      (∀ (j : Nat) (y m : Str), L.ck.mtm[j]? = some (y, m) → ∃ g, Meth K (He.ga K y) m g ∧ CalC P w K mg base (L.xc K) n g (Gm.fn (L.ck.fnm.length + j))) →
      (∀ (i : Nat), n = i + 2 → ∀ (j : Nat) (y m : Str), L.ck.mtm[j]? = some (y, m) → ∃ g, Meth K (He.ga K y) m g ∧ CalC P w K mg base (L.xc K) i g (Gm.fn2 (L.ck.fnm.length + j))) →
      (∀ (c : Nat) (y : Str), L.ck.obm[c]? = some y → ∀ (z : Str) (Fo : List B → Store → R (List (Bool × D))), Gm.ob c = some (z, Fo) → z = y ∧ ∃ a, mg y = some (.ref a) ∧ PySem.W.keepIn K (.ref a) = true ∧ NewC P w K mg base (L.xc K) n a y Fo) →
      Sta L.ck Gm (L.xc K) n P w K mg base := fun Gm n eg es egd et eo a b am bm ao => by
    refine ⟨a, by rw [eg]; exact hd.gcs, hd.free, hd.gcd, fun c x e => ⟨hd.cls c x e, by unfold Lw.xc; rw [e]; rfl⟩, fun c y e => ?_, by rw [es]; exact hd.sub, fun t x tl e1 e2 => ?_, b, hd.mkr, hd.tnd, hd.slc, am, bm, ao, by rw [es]; exact sat, fun z => ⟨n - 2, by have := eo z; omega⟩, by rw [egd]; exact hd.gds, fun o x e => ?_⟩
    · unfold Lw.xc at e
      cases q : L.ck.clm[c]? with
      | none => rw [q] at e; cases e
      | some x => exact ⟨x, rfl⟩
    · obtain ⟨n2, e2⟩ := et t tl e2
      refine ⟨⟨n - 2, by omega⟩, ?_⟩
      rw [← h4, List.getElem?_map] at e1
      rw [List.getElem?_map] at e2
      cases q : L.tls[t]? with
      | none => rw [q] at e1; cases e1
      | some i =>
        rw [q] at e1 e2
        cases e1
        cases e2
        have hi := List.mem_of_getElem? q
        obtain ⟨fd, f1, f2⟩ := hd.tls i hi
        exact ⟨_, fd, i.st, f1, f2, hB.tls i hi, List.all_eq_true.mp h3 i hi⟩
    · rw [← h7, List.getElem?_map] at e
      cases q : L.ods[o]? with
      | none => rw [q] at e; cases e
      | some i =>
        rw [q] at e
        cases e
        have hi := List.mem_of_getElem? q
        obtain ⟨fd, f1, f2⟩ := hd.ods i hi
        exact ⟨_, fd, i.st, f1, f2, hB.ods i hi, List.all_eq_true.mp h6 i hi⟩
  have tlk : ∀ (n t : Nat) (tl : Tl), (if 2 ≤ n then fun t => (L.tls.map (·.tl))[t]? else fun _ => none) t = some tl → 2 ≤ n ∧ (L.tls.map (·.tl))[t]? = some tl := fun n t tl e => by
    by_cases n2 : 2 ≤ n
    · rw [if_pos n2] at e; exact ⟨n2, e⟩
    · rw [if_neg n2] at e; cases e
  -- where each thing lies
  have at_ : ∀ (f : Nat) (x : Str), L.ck.fnm[f]? = some x → ∃ a, mg x = some (.ref a) ∧ PySem.W.keepIn K (.ref a) = true := fun f x e => by
    have hx := List.mem_of_getElem? e
    rw [← h2] at hx
    rcases List.mem_append.mp hx with hx | hx
    · obtain ⟨i, hi, rfl⟩ := List.mem_map.mp hx
      obtain ⟨fd, e1, FD⟩ := hd.fns i hi
      exact ⟨_, e1, FD.kp⟩
    · obtain ⟨i, hi, rfl⟩ := List.mem_map.mp hx
      obtain ⟨fI, fd, e1, mk, FD⟩ := hd.inis i hi
      exact ⟨_, e1, mk.kp⟩
  have bad2 : ∀ (j : Nat) (f : Nat) (x : Str), L.ck.fnm[f]? = some x → ∃ a, mg x = some (.ref a) ∧ PySem.W.keepIn K (.ref a) = true ∧ CalC P w K mg base (L.xc K) j a (fun _ _ => .bad) := fun j f x e => by
    obtain ⟨a, e1, e2⟩ := at_ f x e
    exact ⟨a, e1, e2, calC_bad⟩
  have atM : ∀ (j : Nat) (y m : Str), L.ck.mtm[j]? = some (y, m) → ∃ i, L.mts[j]? = some i ∧ i.c = y ∧ i.m = m := fun j y m e => by
    rw [← g2, List.getElem?_map] at e
    cases q : L.mts[j]? with
    | none => rw [q] at e; cases e
    | some i =>
      rw [q] at e
      have e : some (i.c, i.m) = some (y, m) := e
      cases e
      exact ⟨i, rfl, rfl, rfl⟩
  have badM : ∀ (k : Nat) (j : Nat) (y m : Str), L.ck.mtm[j]? = some (y, m) → ∃ g, Meth K (He.ga K y) m g ∧ CalC P w K mg base (L.xc K) k g (fun _ _ => .bad) := fun k j y m e => by
    obtain ⟨i, hi, e1, e2⟩ := atM j y m e
    obtain ⟨g, fd, mt, FD⟩ := hd.mts i (List.mem_of_getElem? hi)
    rw [e1, e2] at mt
    exact ⟨g, mt, calC_bad⟩
  have noO : ∀ (Gm : Gx) (n : Nat), (∀ c, Gm.ob c = none) → ∀ (c : Nat) (y : Str), L.ck.obm[c]? = some y → ∀ (z : Str) (Fo : List B → Store → R (List (Bool × D))), Gm.ob c = some (z, Fo) → z = y ∧ ∃ a, mg y = some (.ref a) ∧ PySem.W.keepIn K (.ref a) = true ∧ NewC P w K mg base (L.xc K) n a y Fo := fun Gm n h c y _ z Fo e => by
    rw [h c] at e
    cases e
  have hlen : L.ck.fnm.length = L.fns.length + L.inis.length := by rw [← h2]; simp
  -- functions and methods, up to a depth
  have C : ∀ n, (∀ m ≤ n, ∀ (f : Nat) (x : Str), L.ck.fnm[f]? = some x → ∃ a, mg x = some (.ref a) ∧ PySem.W.keepIn K (.ref a) = true ∧ CalC P w K mg base (L.xc K) m a (L.md.call m f)) ∧
      (∀ m ≤ n, ∀ (j : Nat) (y mm : Str), L.ck.mtm[j]? = some (y, mm) → ∃ g, Meth K (He.ga K y) mm g ∧ CalC P w K mg base (L.xc K) m g (L.md.call m (L.ck.fnm.length + j))) := by
    intro n
    induction n with
    | zero =>
      refine ⟨fun m hm f x e => ?_, fun m hm j y mm e => ?_⟩
      · have : m = 0 := by omega
        subst this
        exact bad2 0 f x e
      · have : m = 0 := by omega
        subst this
        exact badM 0 j y mm e
    | succ n ihn =>
      obtain ⟨ih, ihM⟩ := ihn
      -- at n - 1, no lambdas
      have sL : ∀ k, k ≤ n → Sta L.ck (L.md.gxlOf (L.md.call k)) (L.xc K) k P w K mg base := fun k hk => mkG (L.md.gxlOf (L.md.call k)) k rfl rfl rfl (fun t tl z => by cases z) (fun z => by cases z) (ih k hk) (fun j _ f x e => bad2 j f x e) (ihM k hk) (fun i _ j y m e => badM i j y m e) (noO _ _ fun _ => rfl)
      have sG : Sta L.ck (L.gx n) (L.xc K) n P w K mg base := mkG (L.gx n) n rfl rfl rfl (tlk n) (fun z => of_decide_eq_true z) (ih n (Nat.le_refl _)) (fun j ej f x e => by
          subst ej
          exact ih j (by omega) f x e) (ihM n (Nat.le_refl _)) (fun j ej i y m e => by
          subst ej
          exact ihM j (by omega) i y m e) fun c y hy z Fo e => by
          have e : (if 2 ≤ n then fun c => (L.md.obs[c]?).map fun o => (o.x, runO (L.md.gxlOf (L.md.calls n).2.2) o) else fun _ => none) c = some (z, Fo) := e
          by_cases n2 : 2 ≤ n
          · obtain ⟨k, rfl⟩ : ∃ k, n = k + 2 := ⟨n - 2, by omega⟩
            rw [if_pos n2] at e
            rw [← g4, List.getElem?_map] at hy
            have e : ((L.obs.map (·.o))[c]?).map (fun o => (o.x, runO (L.md.gxlOf (L.md.call k)) o)) = some (z, Fo) := e
            rw [List.getElem?_map] at e
            cases q : L.obs[c]? with
            | none => rw [q] at hy; cases hy
            | some i =>
              rw [q] at hy e
              have hy : some i.x = some y := hy
              have e : some (i.o.x, runO (L.md.gxlOf (L.md.call k)) i.o) = some (z, Fo) := e
              cases hy
              cases e
              have hi := List.mem_of_getElem? q
              have ck := List.all_eq_true.mp g3 i hi
              have ex : i.o.x = i.x := by
                obtain ⟨ck, _⟩ := b2a ck
                obtain ⟨ck, _⟩ := b2a ck
                obtain ⟨_, ck⟩ := b2a ck
                exact of_decide_eq_true ck
              obtain ⟨fI, fd, e1, mk, FD⟩ := hd.obs i hi
              exact ⟨ex, _, e1, mk.kp, newO_ok mk FD ck (sL k (by omega)) fun s us hl => FunD.bindsA FD (hB.obs i hi) s us hl⟩
          · rw [if_neg n2] at e
            cases e
      refine ⟨fun m hm f x e => ?_, fun m hm j y mm e => ?_⟩
      · by_cases h : m ≤ n
        · exact ih m h f x e
        · have : m = n + 1 := by omega
          subst this
          have e0 := e
          rw [← h2] at e
          by_cases l : f < L.fns.length
          · rw [List.getElem?_append_left (by simpa using l), List.getElem?_map] at e
            cases q : L.fns[f]? with
            | none => rw [q] at e; cases e
            | some i =>
              rw [q] at e
              cases e
              obtain ⟨fd, e1, FD⟩ := hd.fns i (List.mem_of_getElem? q)
              refine ⟨_, e1, FD.kp, ?_⟩
              have hb := fun s us hl => FunD.bindsA FD (hB.fns i (List.mem_of_getElem? q)) s us hl
              have c := (fnC_ok FD (fun _ => rfl) (List.all_eq_true.mp h1 i (List.mem_of_getElem? q)) sG hb).cal
              have ee : L.md.call (n + 1) f = runF (L.gx n) i.f := by
                funext args s
                rw [Md.call_eq]
                have : L.md.fns[f]? = some i.f := by
                  show (L.fns.map (·.f))[f]? = _
                  rw [List.getElem?_map, q]
                  rfl
                rw [this]
                rfl
              rw [ee]
              exact c
          · rw [List.getElem?_append_right (by simpa using l), List.getElem?_map, List.length_map] at e
            cases q : L.inis[f - L.fns.length]? with
            | none => rw [q] at e; cases e
            | some i =>
              rw [q] at e
              cases e
              obtain ⟨fI, fd, e1, mk, FD⟩ := hd.inis i (List.mem_of_getElem? q)
              refine ⟨_, e1, mk.kp, ?_⟩
              have hn : L.md.fns[f]? = none := by
                show (L.fns.map (·.f))[f]? = none
                exact List.getElem?_eq_none (by simp; omega)
              have hi : L.md.ini[f - L.md.fns.length]? = some i.i := by
                show (L.inis.map (·.i))[f - (L.fns.map (·.f)).length]? = _
                rw [List.length_map, List.getElem?_map, q]
                rfl
              cases n with
              | zero =>
                have ee : L.md.call 1 f = fun _ _ => .bad := by
                  funext args s
                  rw [Md.call_eq, hn, hi]
                  rfl
                rw [ee]
                exact calC_bad
              | succ k =>
                have ee : L.md.call (k + 2) f = runI (L.md.gxl (k + 1)) i.i := by
                  funext args s
                  rw [Md.call_eq, hn, hi]
                  show (if 1 ≤ k + 1 then runI (L.md.gxl (k + 1)) i.i args s else .bad) = _
                  rw [if_pos (Nat.le_add_left 1 k)]
                have hb := fun s us hl => FunD.bindsA FD (hB.inis i (List.mem_of_getElem? q)) s us hl
                rw [ee]
                exact new_ok mk FD (List.all_eq_true.mp h5 i (List.mem_of_getElem? q)) (sL k (Nat.le_succ k)) hb
      · by_cases h : m ≤ n
        · exact ihM m h j y mm e
        · have : m = n + 1 := by omega
          subst this
          obtain ⟨i, hi, ey, em⟩ := atM j y mm e
          subst ey em
          obtain ⟨g, fd, mt, FD⟩ := hd.mts i (List.mem_of_getElem? hi)
          refine ⟨g, mt, ?_⟩
          have hb := fun s us hl => FunD.bindsA FD (hB.mts i (List.mem_of_getElem? hi)) s us hl
          obtain ⟨c1, c2⟩ := b2a (List.all_eq_true.mp g1 i (List.mem_of_getElem? hi))
          have c := (fnC_ok FD (fun z => by rw [z] at c2; cases c2) c1 sG hb).cal
          have ee : L.md.call (n + 1) (L.ck.fnm.length + j) = runF (L.gx n) i.i.f := by
            funext args s
            rw [Md.call_eq]
            have a1 : L.md.fns[L.ck.fnm.length + j]? = none := by
              show (L.fns.map (·.f))[L.ck.fnm.length + j]? = none
              exact List.getElem?_eq_none (by simp; omega)
            have a2 : L.md.ini[L.ck.fnm.length + j - L.md.fns.length]? = none := by
              show (L.inis.map (·.i))[L.ck.fnm.length + j - (L.fns.map (·.f)).length]? = none
              exact List.getElem?_eq_none (by simp; omega)
            have a3 : L.md.mts[L.ck.fnm.length + j - L.md.fns.length - L.md.ini.length]? = some i.i.f := by
              show (L.mts.map (·.i.f))[L.ck.fnm.length + j - (L.fns.map (·.f)).length - (L.inis.map (·.i)).length]? = _
              rw [List.length_map, List.length_map, show L.ck.fnm.length + j - L.fns.length - L.inis.length = j by omega, List.getElem?_map, hi]
              rfl
            rw [a1, a2, a3]
            rfl
          rw [ee]
          exact c
  intro n
  have sG : ∀ n, Sta L.ck (L.gx n) (L.xc K) n P w K mg base := fun n => by
    obtain ⟨ih, ihM⟩ := C n
    have sL : ∀ k, k ≤ n → Sta L.ck (L.md.gxlOf (L.md.call k)) (L.xc K) k P w K mg base := fun k hk => mkG (L.md.gxlOf (L.md.call k)) k rfl rfl rfl (fun t tl z => by cases z) (fun z => by cases z) (ih k hk) (fun j _ f x e => bad2 j f x e) (ihM k hk) (fun i _ j y m e => badM i j y m e) (noO _ _ fun _ => rfl)
    exact mkG (L.gx n) n rfl rfl rfl (tlk n) (fun z => of_decide_eq_true z) (ih n (Nat.le_refl _)) (fun j ej f x e => by
        subst ej
        exact ih j (by omega) f x e) (ihM n (Nat.le_refl _)) (fun j ej i y m e => by
        subst ej
        exact ihM j (by omega) i y m e) fun c y hy z Fo e => by
        have e : (if 2 ≤ n then fun c => (L.md.obs[c]?).map fun o => (o.x, runO (L.md.gxlOf (L.md.calls n).2.2) o) else fun _ => none) c = some (z, Fo) := e
        by_cases n2 : 2 ≤ n
        · obtain ⟨k, rfl⟩ : ∃ k, n = k + 2 := ⟨n - 2, by omega⟩
          rw [if_pos n2] at e
          rw [← g4, List.getElem?_map] at hy
          have e : ((L.obs.map (·.o))[c]?).map (fun o => (o.x, runO (L.md.gxlOf (L.md.call k)) o)) = some (z, Fo) := e
          rw [List.getElem?_map] at e
          cases q : L.obs[c]? with
          | none => rw [q] at hy; cases hy
          | some i =>
            rw [q] at hy e
            have hy : some i.x = some y := hy
            have e : some (i.o.x, runO (L.md.gxlOf (L.md.call k)) i.o) = some (z, Fo) := e
            cases hy
            cases e
            have hi := List.mem_of_getElem? q
            have ck := List.all_eq_true.mp g3 i hi
            have ex : i.o.x = i.x := by
              obtain ⟨ck, _⟩ := b2a ck
              obtain ⟨ck, _⟩ := b2a ck
              obtain ⟨_, ck⟩ := b2a ck
              exact of_decide_eq_true ck
            obtain ⟨fI, fd, e1, mk, FD⟩ := hd.obs i hi
            exact ⟨ex, _, e1, mk.kp, newO_ok mk FD ck (sL k (by omega)) fun s us hl => FunD.bindsA FD (hB.obs i hi) s us hl⟩
        · rw [if_neg n2] at e
          cases e
  exact sG n
end
end Zw
set_option Elab.async false
set_option linter.all false
set_option maxRecDepth 100000
/-! Zw14: the head's facts, the law's end. -/
namespace Zw
open PySem PySem.Spec PyProof.Rows L2
def clsBody : Stmt → List Stmt
  | .ClassDef (body := b) .. => b
  | _ => []
/-! ### the module's constants -/
mutual
def dIn (K : PySem.W.Frag) : D → Value → Bool
  | .non, .none => true
  | .bl b, .bool c => b == c
  | .int i, .int j _ => decide (i = j)
  | .str s, .str z _ => decide (s = z)
  | .tup ds, .ref a => (match K.lookup a with
    | some ⟨.type c, _, .seq its _, _⟩ => decide (c = "tuple") && decide (its.size ≤ sizeLine) && dsIn K ds its.toList
    | _ => false)
  | _, _ => false
def dsIn (K : PySem.W.Frag) : List D → List Value → Bool
  | [], [] => true
  | d :: ds, u :: us => dIn K d u && dsIn K ds us
  | _, _ => false
end
mutual
theorem dIn_ok {K : PySem.W.Frag} : ∀ (d : D) (u : Value), dIn K d u = true → ∃ v, RelV v u ∧ ∀ F, Rp K F v d
  | .non, u, h => by
    cases u with
    | none => exact ⟨.non, rfl, fun _ => .non⟩
    | _ => simp [dIn] at h
  | .bl b, u, h => by
    cases u with
    | bool c => simp [dIn] at h; exact ⟨.bl b, by rw [h]; rfl, fun _ => .bl b⟩
    | _ => simp [dIn] at h
  | .int i, u, h => by
    cases u with
    | int j t => simp [dIn] at h; exact ⟨.int i, ⟨t, by rw [h]⟩, fun _ => .int i⟩
    | _ => simp [dIn] at h
  | .str i, u, h => by
    cases u with
    | str j t => simp [dIn] at h; exact ⟨.str i, ⟨t, by rw [h]⟩, fun _ => .str i⟩
    | _ => simp [dIn] at h
  | .tup ds, u, h => by
    cases u with
    | ref a =>
      rw [dIn] at h
      cases q : K.lookup a with
      | none => rw [q] at h; cases h
      | some o =>
        obtain ⟨oc, od, dt, osl⟩ := o
        rw [q] at h
        cases oc with
        | type c =>
          cases dt with
          | seq its n =>
            have h : (decide (c = "tuple") && decide (its.size ≤ sizeLine) && dsIn K ds its.toList) = true := h
            obtain ⟨h, h3⟩ := b2a h
            obtain ⟨h1, h2⟩ := b2a h
            obtain ⟨vs, r1, r2⟩ := dsIn_ok ds its.toList h3
            exact ⟨.ref a, rfl, fun F => .tup (.inr ⟨_, its, n, q, congrArg Value.type (of_decide_eq_true h1), rfl, of_decide_eq_true h2, r1⟩) (r2 F)⟩
          | _ => cases h
        | _ => cases h
    | _ => simp [dIn] at h
  | .lst ds, u, h => by cases u <;> simp [dIn] at h
  | .ins c ds, u, h => by cases u <;> simp [dIn] at h
  | .dic, u, h => by cases u <;> simp [dIn] at h
  | .rng _ _, u, h => by cases u <;> simp [dIn] at h
  | .dct _ _, u, h => by cases u <;> simp [dIn] at h
theorem dsIn_ok {K : PySem.W.Frag} : ∀ (ds : List D) (us : List Value), dsIn K ds us = true → ∃ vs, Vals vs us ∧ ∀ F, RpL K F vs ds
  | [], us, h => by
    cases us with
    | nil => exact ⟨[], .nil, fun _ => .nil⟩
    | cons _ _ => simp [dsIn] at h
  | d :: ds, us, h => by
    cases us with
    | nil => simp [dsIn] at h
    | cons u us =>
      rw [dsIn] at h
      obtain ⟨h1, h2⟩ := b2a h
      obtain ⟨v, r1, r2⟩ := dIn_ok d u h1
      obtain ⟨vs, s1, s2⟩ := dsIn_ok ds us h2
      exact ⟨v :: vs, .cons r1 s1, fun F => .cons (r2 F) (s2 F)⟩
end
/-! ### the module's dicts -/
def entB (K : PySem.W.Frag) : List Str → List D → List DictEntry → Bool
  | [], [], [] => true
  | k :: ks, v :: vs, e :: es => (match e.key with
    | .str z _ => decide (z = k)
    | _ => false) && dIn K v e.val && entB K ks vs es
  | _, _, _ => false
def gdK (K : PySem.W.Frag) (p : Str × List Str × List D) : Bool := match PySem.W.nsIn K mainGlobals p.1 with
  | some (some (.ref a)) => (match K.lookup a with
    | some ⟨.type c, none, .dict es _, sl⟩ => decide (c = "dict") && sl.isEmpty && !(a == sysModules) && entB K p.2.1 p.2.2 es.toList
    | _ => false)
  | _ => false
/-- what the keys hash to -/
def gdH (K : PySem.W.Frag) (x : Str) : List Int := match PySem.W.nsIn K mainGlobals x with
  | some (some (.ref a)) => (match K.lookup a with
    | some ⟨_, _, .dict es _, _⟩ => es.toList.map (·.hash)
    | _ => [])
  | _ => []
theorem ent_ok {K : PySem.W.Frag} {P : Params} : ∀ {ks : List Str} {vs : List D} {es : List DictEntry}, entB K ks vs es = true → es.map (·.hash) = ks.map (PyData.keyHash P) → PySem.W.KeysLit P es ∧ es.any (·.refKey) = false ∧ ∀ z,
    (gdGet z ks vs = none → es.find? (·.key.isStr z) = none) ∧ ∀ d, gdGet z ks vs = some d → ∃ e, es.find? (·.key.isStr z) = some e ∧ dIn K d e.val = true
  | [], [], [], _, _ => ⟨trivial, rfl, fun z => ⟨fun _ => rfl, fun d h => by cases h⟩⟩
  | k :: ks, v :: vs, e :: es, h, hh => by
    obtain ⟨h, h3⟩ := b2a h
    obtain ⟨h1, h2⟩ := b2a h
    have hh : e.hash :: es.map (·.hash) = PyData.keyHash P k :: ks.map (PyData.keyHash P) := hh
    obtain ⟨e1, e2⟩ := List.cons.inj hh
    obtain ⟨i1, i2, i3⟩ := ent_ok h3 e2
    obtain ⟨eh, ek, evl⟩ := e
    cases ek with
    | str z t =>
      have ez : z = k := of_decide_eq_true h1
      subst ez
      refine ⟨⟨⟨z, t, rfl, e1⟩, i1⟩, by rw [List.any_cons, i2]; rfl, fun y => ?_⟩
      obtain ⟨j1, j2⟩ := i3 y
      have ey : (Value.str z t).isStr y = decide (z = y) := by
        show (z == y) = decide (z = y)
        by_cases c : z = y
        · rw [decide_eq_true c, c]; exact beq_self_eq_true y
        · rw [decide_eq_false c]; exact beq_eq_false_iff_ne.mpr c
      refine ⟨fun q => ?_, fun d q => ?_⟩
      · rw [gdGet] at q
        by_cases c : z = y
        · rw [if_pos c] at q; cases q
        · rw [if_neg c] at q
          rw [List.find?_cons]
          show (match (Value.str z t).isStr y with | true => _ | false => _) = none
          rw [ey, decide_eq_false c]
          exact j1 q
      · rw [gdGet] at q
        by_cases c : z = y
        · rw [if_pos c] at q
          cases q
          refine ⟨_, ?_, h2⟩
          rw [List.find?_cons]
          show (match (Value.str z t).isStr y with | true => _ | false => _) = _
          rw [ey, decide_eq_true c]
        · rw [if_neg c] at q
          obtain ⟨e, f1, f2⟩ := j2 d q
          refine ⟨e, ?_, f2⟩
          rw [List.find?_cons]
          show (match (Value.str z t).isStr y with | true => _ | false => _) = _
          rw [ey, decide_eq_false c]
          exact f1
    | _ => cases h1
  | [], [], _ :: _, h, _ => by cases h
  | [], _ :: _, _, h, _ => by cases h
  | _ :: _, [], _, h, _ => by cases h
  | _ :: _, _ :: _, [], h, _ => by cases h
theorem gdK_ok {K : PySem.W.Frag} {w : World} {h : Heap} {mg : Str → Option Value} {x : Str} {ks : List Str} {vs : List D} (X : K.In h) (G : h.Ns mainGlobals mg) (c : gdK K (x, ks, vs) = true) (hh : gdH K x = ks.map (PyData.keyHash w.params)) :
    ∃ a, mg x = some (.ref a) ∧ (∃ es n, KDict K w a es n) ∧ GdOk K w a ks vs := by
  unfold gdK at c
  unfold gdH at hh
  cases q : PySem.W.nsIn K mainGlobals x with
  | none => simp only [q] at c; cases c
  | some o =>
    cases o with
    | none => simp only [q] at c; cases c
    | some u =>
      cases u with
      | ref a =>
        simp only [q] at c hh
        cases q2 : K.lookup a with
        | none => simp only [q2] at c; cases c
        | some o =>
          obtain ⟨oc, od, dt, sl⟩ := o
          simp only [q2] at c hh
          cases oc with
          | type cn =>
            cases od with
            | none =>
              cases dt with
              | dict es n =>
                simp only at c hh
                obtain ⟨c, c4⟩ := b2a c
                obtain ⟨c, c3⟩ := b2a c
                obtain ⟨c1, c2⟩ := b2a c
                have e1 : cn = "dict" := of_decide_eq_true c1
                have e2 : sl = #[] := Array.isEmpty_iff.mp c2
                have e3 : (a == sysModules) = false := by
                  cases y : a == sysModules with
                  | false => rfl
                  | true => rw [y] at c3; cases c3
                subst e1 e2
                obtain ⟨i1, i2, i3⟩ := ent_ok (P := w.params) c4 hh
                have kd : KDict K w a es n := ⟨q2, i1, e3⟩
                have nse : ∀ z, PySem.W.nsIn K a z = match es.toList.find? (·.key.isStr z) with
                    | some e => some (some e.val)
                    | none => if es.toList.any (·.refKey) then none else some none := fun z => by
                  unfold PySem.W.nsIn
                  have q2 : K.lookup a = some ⟨.type "dict", none, .dict es n, #[]⟩ := q2
                  rw [q2]
                  rfl
                refine ⟨a, PySem.W.mg_of X G q, ⟨es, n, kd⟩, ⟨⟨es, n, kd⟩, fun z qz => ?_, fun z d qz => ?_⟩⟩
                · rw [nse, (i3 z).1 qz, i2]; rfl
                · obtain ⟨e, f1, f2⟩ := (i3 z).2 d qz
                  obtain ⟨v, r1, r2⟩ := dIn_ok d e.val f2
                  exact ⟨e.val, v, by rw [nse, f1], r1, r2⟩
              | _ => cases c
            | some _ => cases dt <;> cases c
          | _ => cases od <;> cases dt <;> cases c
      | _ => simp only [q] at c; cases c
/-! ### tables -/
theorem tabT_mem {K : PySem.W.Frag} {p : Addr × Str} (h : p ∈ tabT K) : ∃ c, PySem.W.codeHdIn K c p.1 = true ∧ K.lookup p.1 = none := by
  unfold tabT at h
  obtain ⟨q, _, e⟩ := List.mem_filterMap.mp h
  have e : (match q.2.data with
    | .func fd => tabAt K fd
    | _ => none) = some p := e
  split at e
  · rename_i fd _
    unfold tabAt at e
    split at e
    · rename_i c _
      split at e
      · rename_i hb
        cases e
        obtain ⟨h1, h2⟩ := b2a hb
        exact ⟨c, h1, Option.isNone_iff_eq_none.mp h2⟩
      · cases e
    · cases e
  · cases e
theorem tabT_in {K : PySem.W.Frag} {a c : Addr} {oc : Value} {od : Option Addr} {osl : Array (Option Value)} {fd : FuncData} (lk : K.lookup a = some ⟨oc, od, .func fd, osl⟩) (ec : fd.code = .ref c) (h1 : PySem.W.codeHdIn K c (He.tabOf K c) = true) (h2 : K.lookup (He.tabOf K c) = none) :
    (He.tabOf K c, fd.qualname ++ (".<locals>." : Str) ++ ("<lambda>" : Str)) ∈ tabT K := by
  unfold tabT
  refine List.mem_filterMap.mpr ⟨(a, _), He.lookup_mem lk, ?_⟩
  show tabAt K fd = _
  unfold tabAt
  rw [ec]
  show (if (PySem.W.codeHdIn K c (He.tabOf K c) && (K.lookup (He.tabOf K c)).isNone) = true then _ else _) = _
  rw [h1, h2]
  rfl
/-! ### the Hook -/
def FnI.defD (i : FnI) : He.DefD := ⟨(i.x, none), i.x, i.x, defArgs i.st, defBody i.st, defScope i.st, [], []⟩
def TlI.defD (i : TlI) : He.DefD := ⟨(i.x, none), i.x, i.x, defArgs i.st, defBody i.st, defScope i.st, [], []⟩
def OdI.defD (i : OdI) : He.DefD := ⟨(i.x, none), i.x, i.x, defArgs i.st, defBody i.st, defScope i.st, [], []⟩
def InI.defD (i : InI) : He.DefD := ⟨(i.x, some "__init__"), "__init__", i.x ++ (".__init__" : Str), defArgs i.st, defBody i.st, defScope i.st, [], []⟩
def MtI.defD (i : MtI) : He.DefD := ⟨(i.c, some i.m), i.m, i.i.x, defArgs i.i.st, defBody i.i.st, defScope i.i.st, [], []⟩
def ObI.defD (i : ObI) : He.DefD := ⟨(i.x, some "__init__"), "__init__", i.x ++ (".__init__" : Str), defArgs i.st, defBody i.st, defScope i.st, [], []⟩
def pairsF (sub : Nat → Nat → Bool) (xs : List Str) : List He.Fa := (xs.zipIdx).flatMap fun p => (xs.zipIdx).map fun q => He.Fa.exm p.1 q.1 (sub p.2 q.2)
/-- the exceptions that keep nothing -/
def Lw.plainC (L : Lw) : List Str := (L.ck.clm.zipIdx.filter fun p => (L.ck.attr p.2).isNone).map (·.1)
def Lw.fa1 (L : Lw) : List He.Fa := L.fns.map (fun i => He.Fa.glo i.x) ++ (L.tls.map (fun i => He.Fa.glo i.x) ++ (L.ck.free.map He.Fa.free ++ (L.ck.clm.map He.Fa.glo ++ (L.plainC.map He.Fa.exc ++ (pairsF L.sub L.ck.clm ++ (L.ods.map (fun i => He.Fa.glo i.x) ++ (L.inis.map (fun i => He.Fa.glo i.x) ++ (L.inis.map (fun i => He.Fa.mkr i.x) ++ L.ck.slc.map (fun p => He.Fa.glo p.1)))))))))
def Lw.fa2 (L : Lw) : List He.Fa := L.mts.map (fun i => He.Fa.meth i.c i.m) ++ (L.obs.map (fun i => He.Fa.glo i.x) ++ L.obs.map (fun i => He.Fa.mkr i.x))
def Lw.fa (L : Lw) : List He.Fa := L.fa1 ++ L.fa2
def Lw.fn1 (L : Lw) : List He.DefD := L.fns.map FnI.defD ++ (L.tls.map TlI.defD ++ (L.ods.map OdI.defD ++ L.inis.map InI.defD))
def Lw.fn2 (L : Lw) : List He.DefD := L.mts.map MtI.defD ++ L.obs.map ObI.defD
def Lw.fn (L : Lw) : List He.DefD := L.fn1 ++ L.fn2
/-- addresses apart; m: those that were met -/
def ndM : List (Addr × Str) → Nat → Bool
  | [], _ => true
  | p :: r, m => !Nat.testBit m p.1 && ndM r (m ||| (1 <<< p.1))
theorem ndM_out : ∀ {l : List (Addr × Str)} {m : Nat}, ndM l m = true → ∀ p ∈ l, Nat.testBit m p.1 = false
  | [], _, _, p, hp => by simp at hp
  | q :: r, m, h, p, hp => by
    obtain ⟨h1, h2⟩ := b2a (show (!Nat.testBit m q.1 && ndM r (m ||| (1 <<< q.1))) = true from h)
    rcases List.mem_cons.mp hp with e | hp
    · rw [e]
      cases z : Nat.testBit m q.1 with
      | false => rfl
      | true => rw [z] at h1; cases h1
    · have := ndM_out h2 p hp
      rw [Nat.testBit_or] at this
      exact (Bool.or_eq_false_iff.mp this).1
theorem ndM_ok : ∀ {l : List (Addr × Str)} {m : Nat}, ndM l m = true → ∀ p ∈ l, ∀ q ∈ l, p.1 = q.1 → p = q
  | [], _, _, p, hp, _, _, _ => by simp at hp
  | t :: r, m, h, p, hp, q, hq, e => by
    obtain ⟨h1, h2⟩ := b2a (show (!Nat.testBit m t.1 && ndM r (m ||| (1 <<< t.1))) = true from h)
    have out : ∀ u ∈ r, u.1 ≠ t.1 := fun u hu z => by
      have := ndM_out h2 u hu
      rw [Nat.testBit_or] at this
      have := (Bool.or_eq_false_iff.mp this).2
      rw [z, Nat.testBit_shiftLeft] at this
      simp at this
    rcases List.mem_cons.mp hp with ep | hp
    · rcases List.mem_cons.mp hq with eq | hq
      · rw [ep, eq]
      · exact absurd (by rw [← e, ep]) (out q hq)
    · rcases List.mem_cons.mp hq with eq | hq
      · exact absurd (by rw [e, eq]) (out p hp)
      · exact ndM_ok h2 p hp q hq e
def tndB (l : List (Addr × Str)) : Bool := ndM l 0
/-- the addresses that are new to m -/
def newM : List Addr → Nat → List Addr → List Addr × Nat
  | [], m, acc => (acc, m)
  | a :: r, m, acc => bif Nat.testBit m a then newM r m acc else newM r (m ||| (1 <<< a)) (a :: acc)
def newsM (g : Addr → Option Obj) : List Addr → Nat → List Addr → List Addr × Nat
  | [], m, acc => (acc, m)
  | a :: r, m, acc => match g a with
    | some o => match newM (He.refsD o) m acc with
      | (acc', m') => newsM g r m' acc'
    | none => newsM g r m acc
/-- what is reached in n steps, each once -/
def asE (g : Addr → Option Obj) : Nat → Nat → List Addr → List Addr
  | 0, _, fr => fr
  | n + 1, m, fr => match newsM g fr m [] with
    | (fr', m') => fr ++ asE g n m' fr'
def asF (g : Addr → Option Obj) (n : Nat) : List Addr := cStatics :: asE g n (1 <<< mainGlobals) [mainGlobals]
/-! ### a class with slots, by what is written -/
def slotK (K : PySem.W.Frag) (C : Addr) (i : Nat) (f : Str) : Bool := He.eqO (PySem.W.findIn K (.ref C) f) (some (some (.ref (He.ma K C f)))) && He.eqO (PySem.W.specialIn K (.ref (He.ma K C f)) "__get__") (some (some (.builtin "member_descriptor.__get__"))) &&
  decide (PySem.W.takesIn K (.ref (He.ma K C f)) = some true) && decide (PySem.W.typeIn K (.ref (He.ma K C f)) = some (.type "member_descriptor")) && decide (PySem.W.slotIn K (He.ma K C f) C = some i) && decide (i < 1000)
def slK (K : PySem.W.Frag) (C : Addr) : Bool := PySem.W.plainGet K C Str.empty && PySem.W.isClsIn K C && PySem.W.plainOver K C && He.eqO (PySem.W.findIn K (.ref C) "__setattr__") (some (some (.builtin "object.__setattr__"))) &&
  He.eqO (PySem.W.findIn K (.ref C) "__class__") (some (some (.builtin "object.__class__"))) && He.eqO (PySem.W.specialIn K (.builtin "object.__class__") "__get__") (some (some (.builtin "getset_descriptor.__get__"))) && decide (PySem.W.takesIn K (.builtin "object.__class__") = some true) && decide (PySem.W.mroIn K C (.type "object") = some true) &&
  ((["int", "bool", "tuple", "list", "str", "dict"] : List String).all fun n => decide (PySem.W.kitOne K (.ref C) (.type n) = some false)) && decide (PySem.W.kitOne K (.ref C) (.ref C) = some true) &&
  ((["NoneType", "bool", "int", "str", "tuple", "list", "dict"] : List String).all fun n => decide (PySem.W.kitOne K (.type n) (.ref C) = some false))
def slcK (K : PySem.W.Frag) (p : Str × List Str) : Bool := slK K (He.ga K p.1) && p.2.zipIdx.all fun q => slotK K (He.ga K p.1) q.2 q.1
theorem slcK_ok {K : PySem.W.Frag} {mg : Str → Option Value} {p : Str × List Str} (h : slcK K p = true) (hm : mg p.1 = some (.ref (He.ga K p.1))) : SlcOk K mg p.1 p.2 := by
  obtain ⟨h, hs⟩ := b2a h
  obtain ⟨h, h11⟩ := b2a h
  obtain ⟨h, h10⟩ := b2a h
  obtain ⟨h, h9⟩ := b2a h
  obtain ⟨h, h8⟩ := b2a h
  obtain ⟨h, h7⟩ := b2a h
  obtain ⟨h, h6⟩ := b2a h
  obtain ⟨h, h5⟩ := b2a h
  obtain ⟨h, h4⟩ := b2a h
  obtain ⟨h, h3⟩ := b2a h
  obtain ⟨h1, h2⟩ := b2a h
  refine ⟨hm, ⟨⟨h1, h2, h3, He.eqO_ok h4⟩, ⟨He.eqO_ok h5, He.eqO_ok h6, of_decide_eq_true h7, of_decide_eq_true h8⟩, fun n hn => of_decide_eq_true (List.all_eq_true.mp h9 n hn), of_decide_eq_true h10⟩, fun n hn => of_decide_eq_true (List.all_eq_true.mp h11 n hn), fun i f e => ?_⟩
  have z := List.all_eq_true.mp hs (f, i) (List.mem_zipIdx_iff_getElem?.mpr e)
  obtain ⟨z, z6⟩ := b2a z
  obtain ⟨z, z5⟩ := b2a z
  obtain ⟨z, z4⟩ := b2a z
  obtain ⟨z, z3⟩ := b2a z
  obtain ⟨z1, z2⟩ := b2a z
  exact ⟨_, He.eqO_ok z1, He.eqO_ok z2, of_decide_eq_true z3, of_decide_eq_true z4, of_decide_eq_true z5, of_decide_eq_true z6⟩
/-- __init__ of an exception that keeps something, as it lies there -/
abbrev FnX : Type := Option (Str × Str × Arguments × FuncBody × Scope × Addr × List Str × Value × Addr)
def fnX (K : PySem.W.Frag) (i : ExI) : FnX := match K.lookup (He.ma K (He.ga K i.x) "__init__") with
  | some ⟨_, _, .func fd, _⟩ => some (fd.name, fd.qualname, fd.params, fd.body, fd.scope, fd.globals, fd.closure.map (·.1), fd.defaults, fd.builtins)
  | _ => none
def ExI.val (i : ExI) : FnX := some ("__init__", i.x ++ (".__init__" : Str), defArgs i.st, .stmts (defBody i.st), defScope i.st, mainGlobals, ["__class__"], .none, builtinsNs)
/-- its code's file, its cell -/
def exC (file : String) (K : PySem.W.Frag) (i : ExI) : Bool := match K.lookup (He.ma K (He.ga K i.x) "__init__") with
  | some ⟨_, _, .func fd, _⟩ => (match fd.code with
    | .ref cda => PySem.W.codeIn K (.ref cda) (i.x ++ (".__init__" : Str)) && (match K.lookup cda with
      | some ⟨_, _, .fields vs, _⟩ => (match (vs[2]? : Option Value) with
        | some (.str fl _) => ((file : Str) == fl)
        | _ => false)
      | _ => false)
    | _ => false) && (match fd.closure with
    | [(_, cc)] => (match K.lookup cc with
      | some ⟨_, _, .cell (some (.ref D)), _⟩ => decide (D = He.ga K i.x)
      | _ => false)
    | _ => false)
  | _ => false
def exK (file : String) (K : PySem.W.Frag) (i : ExI) : Bool := PySem.W.excInitIn K (He.ga K i.x) (baseOf i.base).2.2.2 (baseOf i.base).2.1 && He.eqO (PySem.W.findIn K (.ref (He.ga K i.x)) "__init__") (some (some (.ref (He.ma K (He.ga K i.x) "__init__")))) && PySem.W.isFn K (.ref (He.ma K (He.ga K i.x) "__init__")) &&
  He.eqO (PySem.W.findIn K (.ref (He.ga K i.x)) "__setattr__") (some (some (.builtin "object.__setattr__"))) && PySem.W.excOver K (He.ga K i.x) (baseOf i.base).2.2.2 && He.eqO (PySem.W.takerIn K (He.ga K i.x) i.f) (some none) && PySem.W.hasDictIn K (He.ga K i.x) && PySem.W.keepIn K (.ref (He.ga K i.x)) &&
  decide (PySem.W.subIn K (.ref (He.ga K i.x)) (.type (baseOf i.base).1) = some true) && decide (PySem.W.subIn K (.ref (He.ga K i.x)) (.type "BaseException") = some true) && decide (PySem.W.typeIn K (.ref (He.ga K i.x)) = some (.type "type")) &&
  He.eqO (PySem.W.ks_superIn K (He.ga K i.x) (He.ga K i.x) "__init__") (some (some (.builtin (baseOf i.base).2.2.1))) && He.eqO (PySem.W.nsIn K cStatics "thirdparty.any") (some none) && decide (PySem.W.mroIn K (He.ga K i.x) (.ref (He.ga K i.x)) = some true) && He.eqO (PySem.W.nsIn K mainGlobals "super") (some none) && PySem.W.isClsIn K (He.ga K i.x) && exC file K i
theorem exK_ok {P : Program} {file : String} {K : PySem.W.Frag} {i : ExI} (h : exK file K i = true) (e : fnX K i = i.val) (hf : P.main.file = file) (ht : (P.main.scope.names.lookup ("super" : Str)).isSome = false) : ExT P K (He.ga K i.x) (He.ma K (He.ga K i.x) "__init__") i.x i.f (baseOf i.base).1 (baseOf i.base).2.1 (baseOf i.base).2.2.1 (baseOf i.base).2.2.2 i.st := by
  obtain ⟨h, h17⟩ := b2a h
  obtain ⟨h, h16⟩ := b2a h
  obtain ⟨h, h15⟩ := b2a h
  obtain ⟨h, h14⟩ := b2a h
  obtain ⟨h, h13⟩ := b2a h
  obtain ⟨h, h12⟩ := b2a h
  obtain ⟨h, h11⟩ := b2a h
  obtain ⟨h, h10⟩ := b2a h
  obtain ⟨h, h9⟩ := b2a h
  obtain ⟨h, h8⟩ := b2a h
  obtain ⟨h, h7⟩ := b2a h
  obtain ⟨h, h6⟩ := b2a h
  obtain ⟨h, h5⟩ := b2a h
  obtain ⟨h, h4⟩ := b2a h
  obtain ⟨h, h3⟩ := b2a h
  obtain ⟨h1, h2⟩ := b2a h
  refine ⟨h1, He.eqO_ok h2, h3, He.eqO_ok h4, h5, He.eqO_ok h6, h7, h8, of_decide_eq_true h9, of_decide_eq_true h10, of_decide_eq_true h11, He.eqO_ok h12, He.eqO_ok h13, of_decide_eq_true h14, He.eqO_ok h15, h16, ?_, ht⟩
  unfold exC at h17
  unfold fnX at e
  cases q : K.lookup (He.ma K (He.ga K i.x) "__init__") with
  | none => rw [q] at h17; cases h17
  | some o =>
    obtain ⟨oc, od, dt, osl⟩ := o
    rw [q] at h17 e
    cases dt with
    | func fd =>
      obtain ⟨n1, n2, n3, n4, n5, n6, n7, n8, n9, n10, n11, n12, n13, n14, n15⟩ := fd
      have e2 : (some (n1, n2, n3, n4, n5, n6, n7.map (·.1), n8, n15) : FnX) = i.val := e
      unfold ExI.val at e2
      simp only [Option.some.injEq, Prod.mk.injEq] at e2
      obtain ⟨g1, g2, g3, g4, g5, g6, g7, g8, g9⟩ := e2
      subst g1 g2 g3 g4 g5 g6 g8 g9
      obtain ⟨k1, k2⟩ := b2a h17
      dsimp only at k1 k2
      split at k1
      · rename_i cda
        obtain ⟨k1, k3⟩ := b2a k1
        split at k3
        · rename_i ccl cdd vs ccs qc
          split at k3
          · rename_i fl tf qv
            split at k2
            · rename_i nm cc
              split at k2
              · rename_i cl cld D csl qcc
                have ed := of_decide_eq_true k2
                subst ed
                have en : nm = ("__class__" : Str) := by simpa using g7
                subst en
                exact ⟨oc, od, osl, _, _, _, _, _, cda, cc, rfl, k1, ⟨_, _, vs, _, fl, tf, qc, qv, by rw [hf]; exact k3⟩, _, _, _, qcc⟩
              · cases k2
            · cases k2
          · cases k3
        · cases k3
      · cases k1
    | _ => cases h17
/-- the exceptions that keep something -/
def Lw.attK (L : Lw) (K : PySem.W.Frag) : Bool := L.ck.clm.zipIdx.all fun p => match L.ck.attr p.2 with
  | none => true
  | some f => xfB K (He.ga K p.1) && He.eqO (PySem.W.findIn K (.ref (He.ga K p.1)) f) (some none)
def Lw.more (L : Lw) (K : PySem.W.Frag) : Bool := ((L.ck.gcn.zip L.gcs).all fun p => match PySem.W.nsIn K mainGlobals p.1 with
  | some (some u) => dIn K p.2 u
  | _ => false) && (!L.ck.gcd || match PySem.W.nsIn K mainGlobals "gcd" with
  | some (some (.builtin id)) => decide (id = "math.gcd")
  | _ => false) && (L.ck.mkr.all fun x => L.fns.any (fun i => decide (i.x = x)) && PySem.W.codeHdIn K (He.cT K (defn x)).1 (He.cT K (defn x)).2 && (K.lookup (He.cT K (defn x)).2).isNone) && tndB (tabT K) && L.ck.slc.all (slcK K) && L.attK K && L.exs.all (exK L.file K) && (decide (L.gds.length = L.ck.gdn.length) && (L.ck.gdn.zip L.gds).all (gdK K))
/-- the tables are empty still -/
def tabsE (g : Addr → Option Obj) (K : PySem.W.Frag) : Bool := (tabT K).all fun p => match g p.1 with
  | some o => He.emptyTab o
  | none => false
abbrev AlX : Type := Bool × He.AlD × List FnX × List (List Int)
def Lw.obsG (L : Lw) (g : Addr → Option Obj) (K : PySem.W.Frag) : AlX := (L.more K && tabsE g K, He.obsD L.fa L.fn K, L.exs.map (fnX K), L.ck.gdn.map (gdH K))
/-- the keys of the dicts, at a world -/
def Lw.gdW (L : Lw) (w : World) : List (List Int) := L.gds.map fun p => p.1.map (PyData.keyHash w.params)
theorem tabsE_ok {h : Heap} {K : PySem.W.Frag} (e : tabsE h.get? K = true) : ∀ p ∈ tabT K, h.get? p.1 = some { cls := .none, data := .fields #[] } := fun p hp => by
  have z := List.all_eq_true.mp e p hp
  cases q : h.get? p.1 with
  | none => rw [q] at z; cases z
  | some o =>
    rw [q] at z
    rw [He.emptyTab_eq z]
def Lw.hook (L : Lw) (n : Nat) : PySem.W.Hook where
  α := AlX
  obs := fun s => L.obsG s.heap.get? (He.frT s.heap.get? (asF s.heap.get? n))
  val := fun w => (true, He.valD L.fn, L.exs.map ExI.val, L.gdW w)
  says := fun w h => ∃ K : PySem.W.Frag, K.In h ∧ L.more K = true ∧ He.SaysD L.fa L.fn K ∧ L.exs.map (fnX K) = L.exs.map ExI.val ∧ L.ck.gdn.map (gdH K) = L.gdW w ∧ ∀ p ∈ tabT K, h.get? p.1 = some { cls := .none, data := .fields #[] }
  of := fun _ _ e => by
    obtain ⟨e1, e2⟩ := b2a (congrArg (fun z : AlX => z.1) e)
    exact ⟨_, He.frT_in, e1, congrArg (fun z : AlX => z.2.1) e, congrArg (fun z : AlX => z.2.2.1) e, congrArg (fun z : AlX => z.2.2.2) e, tabsE_ok e2⟩
  keeps := fun _ _ _ ⟨K, hK, c, d, x, gh, t⟩ k => ⟨K, PySem.W.Frag.In.keeps hK k, c, d, x, gh, fun p hp => k _ _ (t p hp)⟩
def Lw.ob (L : Lw) (n : Nat) (s : PySem.W.SharedT) : AlX := L.obsG (HandSHeadRun.getT s) (He.frT (HandSHeadRun.getT s) (asF (HandSHeadRun.getT s) n))
theorem Lw.ob_eq (L : Lw) (n : Nat) (s : PySem.W.SharedT) : L.ob n s = (L.hook n).obs s.abs := by
  have e : HandSHeadRun.getT s = s.abs.heap.get? := funext (HandSHeadRun.getT_eq s)
  unfold Lw.ob
  rw [e]
  rfl
/-- the frame of the look at the head's end -/
def Lw.fr (n : Nat) (s : PySem.W.SharedT) : PySem.W.Frag := He.frT (HandSHeadRun.getT s) (asF (HandSHeadRun.getT s) n)
theorem Lw.ob_of (L : Lw) (n : Nat) (w : World) {e : Option PySem.W.SharedT} (r1 : e.map (fun s => L.more (Lw.fr n s)) = some true) (r2 : e.map (fun s => tabsE (HandSHeadRun.getT s) (Lw.fr n s)) = some true) (r3 : e.map (fun s => L.fa.all fun f => f.ok (Lw.fr n s)) = some true)
    (r4 : e.map (fun s => L.fn.all fun d => d.ok (Lw.fr n s)) = some true) (r5 : e.map (fun s => L.fn.map fun d => He.fnW (Lw.fr n s) d.at_) = some (L.fn.map He.DefD.val)) (r6 : e.map (fun s => L.exs.map (fnX (Lw.fr n s))) = some (L.exs.map ExI.val)) (r7 : e.map (fun s => L.ck.gdn.map (gdH (Lw.fr n s))) = some (L.gdW w)) : e.map (fun s => L.ob n s) = some ((L.hook n).val w) := by
  cases e with
  | none => cases r1
  | some s =>
    simp only [Option.map_some, Option.some.injEq] at r1 r2 r3 r4 r5 r6 r7 ⊢
    refine congrArg some ?_
    show ((L.more (Lw.fr n s) && tabsE (HandSHeadRun.getT s) (Lw.fr n s), ((L.fa.all fun f => f.ok (Lw.fr n s)) && L.fn.all fun d => d.ok (Lw.fr n s), L.fn.map fun d => He.fnW (Lw.fr n s) d.at_), L.exs.map (fnX (Lw.fr n s)), L.ck.gdn.map (gdH (Lw.fr n s))) : AlX) = (true, (true, L.fn.map He.DefD.val), L.exs.map ExI.val, L.gdW w)
    rw [r1, r2, r3, r4, r5, r6, r7]
    rfl
theorem pairsF_mem {sub : Nat → Nat → Bool} {xs : List Str} {c h : Nat} {x y : Str} (hc : xs[c]? = some x) (hh : xs[h]? = some y) : He.Fa.exm x y (sub c h) ∈ pairsF sub xs := by
  unfold pairsF
  refine List.mem_flatMap.mpr ⟨(x, c), List.mem_zipIdx_iff_getElem?.mpr hc, ?_⟩
  exact List.mem_map.mpr ⟨(y, h), List.mem_zipIdx_iff_getElem?.mpr hh, rfl⟩
theorem metF_ok {K : PySem.W.Frag} {x m : Str} (c : (He.Fa.meth x m).ok K = true) : Meth K (He.ga K x) m (He.ma K (He.ga K x) m) := by
  obtain ⟨c1, c2⟩ := b2a c
  obtain ⟨c2, c3⟩ := b2a c2
  exact ⟨He.eqO_ok c1, c2, c3⟩
theorem head_ok {P : Program} {w : World} {L : Lw} {K : PySem.W.Frag} {h base : Heap} {mg : Str → Option Value} (X : K.In h) (G : h.Ns mainGlobals mg) (m : L.more K = true) (c : He.SaysD L.fa L.fn K) (TB : ∀ p ∈ tabT K, base.BuiltinsAt mg p.1 ∧ mainGlobals ≠ p.1) (XB : K.In base) (ex : L.exs.map (fnX K) = L.exs.map ExI.val) (hgh : L.ck.gdn.map (gdH K) = L.gdW w) (hxB : L.exB = true) (hf : L.exs ≠ [] → P.main.file = L.file ∧ (P.main.scope.names.lookup ("super" : Str)).isSome = false) : HeadOk P w L K mg base := by
  obtain ⟨m, m8⟩ := b2a m
  obtain ⟨m, m7⟩ := b2a m
  obtain ⟨m, m6⟩ := b2a m
  obtain ⟨m, m5⟩ := b2a m
  obtain ⟨m, m4⟩ := b2a m
  obtain ⟨m, m3⟩ := b2a m
  obtain ⟨m1, m2⟩ := b2a m
  have facts : ∀ f ∈ L.fa, f.ok K = true := fun f hf => c.facts hf
  have fac : ∀ (f : He.Fa), (f ∈ L.fns.map (fun i => He.Fa.glo i.x) ∨ f ∈ L.tls.map (fun i => He.Fa.glo i.x) ∨ f ∈ L.ck.free.map He.Fa.free ∨ f ∈ L.ck.clm.map He.Fa.glo ∨ f ∈ L.plainC.map He.Fa.exc ∨ f ∈ pairsF L.sub L.ck.clm ∨ f ∈ L.ods.map (fun i => He.Fa.glo i.x) ∨ f ∈ L.inis.map (fun i => He.Fa.glo i.x) ∨ f ∈ L.inis.map (fun i => He.Fa.mkr i.x) ∨ f ∈ L.ck.slc.map (fun p => He.Fa.glo p.1)) → f.ok K = true := fun f hf => by
    refine facts f (List.mem_append_left _ ?_)
    unfold Lw.fa1
    simp only [List.mem_append]
    exact hf
  have fac2 : ∀ f ∈ L.fa2, f.ok K = true := fun f hf => facts f (List.mem_append_right _ hf)
  have dfs : ∀ d ∈ L.fn1, d ∈ L.fn := fun d hd => List.mem_append_left _ hd
  have fns : ∀ i ∈ L.fns, ∃ fd, mg i.x = some (.ref (He.ga K i.x)) ∧ FunD K i.x i.x (defArgs i.st) (defBody i.st) (defScope i.st) [] [] (He.ga K i.x) fd := fun i hi => by
    obtain ⟨fd, F⟩ := c.defs (d := i.defD) (dfs _ (List.mem_append_left _ (List.mem_map_of_mem (f := FnI.defD) hi)))
    exact ⟨fd, He.glo_ok X G (fac _ (.inl (List.mem_map_of_mem (f := fun i => He.Fa.glo i.x) hi))), F⟩
  have tnd : ∀ p ∈ tabT K, ∀ q ∈ tabT K, p.1 = q.1 → p.2 = q.2 := fun p hp q hq e => by
    rw [ndM_ok m4 p hp q hq e]
  refine ⟨fns, fun g x d e1 e2 => ?_, fun x hx => ?_, fun hg => ?_, fun cc x hx => ?_, fun cc hh x y e1 e2 => ?_, fun i hi => ?_, fun x hx => ?_, tnd, fun p hp => ?_, fun i hi => ?_, fun i hi => ?_, fun i hi => ?_, fun i hi => ?_, fun g x ex1 => ?_⟩
  · have hm : (x, d) ∈ L.ck.gcn.zip L.gcs := List.mem_of_getElem? (i := g) (by rw [List.getElem?_zip_eq_some]; exact ⟨e1, e2⟩)
    have := List.all_eq_true.mp m1 _ hm
    cases q : PySem.W.nsIn K mainGlobals x with
    | none => simp [q] at this
    | some o =>
      cases o with
      | none => simp [q] at this
      | some u =>
        simp only [q] at this
        obtain ⟨v, r1, r2⟩ := dIn_ok d u this
        exact ⟨v, u, PySem.W.mg_of X G q, r1, r2⟩
  · exact He.free_ok X G (fac _ (.inr (.inr (.inl (List.mem_map_of_mem (f := He.Fa.free) hx)))))
  · rw [hg] at m2
    have m2 : (match PySem.W.nsIn K mainGlobals "gcd" with
      | some (some (.builtin id)) => decide (id = "math.gcd")
      | _ => false) = true := m2
    split at m2
    · rename_i id q
      rw [of_decide_eq_true m2] at q
      exact PySem.W.mg_of X G q
    · cases m2
  · have hz : (x, cc) ∈ L.ck.clm.zipIdx := List.mem_zipIdx_iff_getElem?.mpr hx
    have gl := He.glo_ok X G (fac _ (.inr (.inr (.inr (.inl (List.mem_map_of_mem (f := He.Fa.glo) (List.mem_of_getElem? hx)))))))
    cases ea : L.ck.attr cc with
    | none =>
      have hp : x ∈ L.plainC := List.mem_map.mpr ⟨(x, cc), List.mem_filter.mpr ⟨hz, by show (L.ck.attr cc).isNone = true; rw [ea]; rfl⟩, rfl⟩
      obtain ⟨z1, z2, z3, z4⟩ := He.exc_ok (fac (.exc x) (.inr (.inr (.inr (.inr (.inl (List.mem_map_of_mem (f := He.Fa.exc) hp)))))))
      exact (⟨gl, z1, z2, z3, z4⟩ : ClsOk K mg x)
    | some f =>
      have z := List.all_eq_true.mp m6 _ hz
      have z : (match L.ck.attr cc with
        | none => true
        | some f => xfB K (He.ga K x) && He.eqO (PySem.W.findIn K (.ref (He.ga K x)) f) (some none)) = true := z
      rw [ea] at z
      obtain ⟨z1, z2⟩ := b2a z
      obtain ⟨x1, x2⟩ := b2a hxB
      have y := List.all_eq_true.mp x2 _ hz
      have y : (match L.ck.attr cc with
        | none => true
        | some f => L.exs.any fun i => decide (i.x = x) && decide (i.f = f)) = true := y
      rw [ea] at y
      obtain ⟨i, hi, y⟩ := List.any_eq_true.mp y
      obtain ⟨y1, y2⟩ := b2a y
      have y1 := of_decide_eq_true y1
      have y2 := of_decide_eq_true y2
      obtain ⟨f1, f2⟩ := hf (fun z => by rw [z] at hi; cases hi)
      have ei : fnX K i = i.val := by
        obtain ⟨n, hn⟩ := List.getElem?_of_mem hi
        have q := congrArg (fun l : List FnX => l[n]?) ex
        simp only [List.getElem?_map, hn] at q
        exact Option.some.inj q
      have T := exK_ok (List.all_eq_true.mp m7 i hi) ei f1 f2
      obtain ⟨b1, b2, b3⟩ := base_ok i.base
      have sh := List.all_eq_true.mp x1 i hi
      rw [y1, y2] at T
      rw [y2] at sh
      exact (⟨gl, xfB_ok z1, He.eqO_ok z2, fun X ta e p pos k e1 e2 e3 hr hg hdb ha hs => by
        subst e1 e2 e3
        exact pmk_ex T b1 b2 b3 sh gl hr hg hdb ha hs⟩ : ClsA P K mg x f)
  · exact He.exm_ok (fac _ (.inr (.inr (.inr (.inr (.inr (.inl (pairsF_mem e1 e2))))))))
  · obtain ⟨fd, F⟩ := c.defs (d := i.defD) (dfs _ (List.mem_append_right _ (List.mem_append_left _ (List.mem_map_of_mem (f := TlI.defD) hi))))
    exact ⟨fd, He.glo_ok X G (fac _ (.inr (.inl (List.mem_map_of_mem (f := fun (i : TlI) => He.Fa.glo i.x) hi)))), F⟩
  · obtain ⟨z, z3⟩ := b2a (List.all_eq_true.mp m3 x hx)
    obtain ⟨z1, z2⟩ := b2a z
    obtain ⟨i, hi, ei⟩ := List.any_eq_true.mp z1
    have ei := of_decide_eq_true ei
    subst ei
    obtain ⟨fd, _, FD⟩ := fns i hi
    obtain ⟨oc, od, dV, kV, doc, pm, an, cdv, ct, osl, rfl, lk, hcd, _, _⟩ := FD.ex
    obtain ⟨cc, ec⟩ := He.codeIn_ref hcd
    have e1 : (He.cT K (defn i.x)).1 = cc := He.codeOf_eq (p := defn i.x) lk ec
    have e2 : (He.cT K (defn i.x)).2 = He.tabOf K cc := by
      show He.tabOf K (He.cT K (defn i.x)).1 = _
      rw [e1]
    have z3 := Option.isNone_iff_eq_none.mp z3
    have mem0 := tabT_in lk ec (by rw [← e2, ← e1]; exact z2) (by rw [← e2]; exact z3)
    have mem : (He.tabOf K cc, i.x ++ (".<locals>." : Str) ++ ("<lambda>" : Str)) ∈ tabT K := mem0
    obtain ⟨t1, t2⟩ := TB _ mem
    rw [e2, e1]
    rw [e2, e1] at z2
    exact ⟨⟨PySem.W.codeHd_of_K XB z2, t1, t2⟩, mem⟩
  · exact slcK_ok (List.all_eq_true.mp m5 p hp) (He.glo_ok X G (fac _ (.inr (.inr (.inr (.inr (.inr (.inr (.inr (.inr (.inr (List.mem_map_of_mem (f := fun (p : Str × List Str) => He.Fa.glo p.1) hp))))))))))))
  · obtain ⟨fd, F⟩ := c.defs (d := i.defD) (dfs _ (List.mem_append_right _ (List.mem_append_right _ (List.mem_append_left _ (List.mem_map_of_mem (f := OdI.defD) hi)))))
    exact ⟨fd, He.glo_ok X G (fac _ (.inr (.inr (.inr (.inr (.inr (.inr (.inl (List.mem_map_of_mem (f := fun (i : OdI) => He.Fa.glo i.x) hi))))))))), F⟩
  · obtain ⟨fd, F⟩ := c.defs (d := i.defD) (dfs _ (List.mem_append_right _ (List.mem_append_right _ (List.mem_append_right _ (List.mem_map_of_mem (f := InI.defD) hi)))))
    exact ⟨_, fd, He.glo_ok X G (fac _ (.inr (.inr (.inr (.inr (.inr (.inr (.inr (.inl (List.mem_map_of_mem (f := fun (i : InI) => He.Fa.glo i.x) hi)))))))))), He.mkr_ok (fac _ (.inr (.inr (.inr (.inr (.inr (.inr (.inr (.inr (.inl (List.mem_map_of_mem (f := fun (i : InI) => He.Fa.mkr i.x) hi))))))))))), F⟩
  · obtain ⟨fd, F⟩ := c.defs (d := i.defD) (List.mem_append_right _ (List.mem_append_left _ (List.mem_map_of_mem (f := MtI.defD) hi)))
    exact ⟨_, fd, metF_ok (fac2 _ (List.mem_append_left _ (List.mem_map_of_mem (f := fun (i : MtI) => He.Fa.meth i.c i.m) hi))), F⟩
  · obtain ⟨fd, F⟩ := c.defs (d := i.defD) (List.mem_append_right _ (List.mem_append_right _ (List.mem_map_of_mem (f := ObI.defD) hi)))
    exact ⟨_, fd, He.glo_ok X G (fac2 _ (List.mem_append_right _ (List.mem_append_left _ (List.mem_map_of_mem (f := fun (i : ObI) => He.Fa.glo i.x) hi)))), He.mkr_ok (fac2 _ (List.mem_append_right _ (List.mem_append_right _ (List.mem_map_of_mem (f := fun (i : ObI) => He.Fa.mkr i.x) hi)))), F⟩
  · obtain ⟨n1, n2⟩ := b2a m8
    have n1 := of_decide_eq_true n1
    have lt := (List.getElem?_eq_some_iff.mp ex1).1
    have e3 : L.gds[g]? = some L.gds[g] := List.getElem?_eq_getElem (by omega)
    generalize L.gds[g] = kv at e3
    obtain ⟨ks, vs⟩ := kv
    have hz : (x, ks, vs) ∈ L.ck.gdn.zip L.gds := List.mem_of_getElem? (i := g) (by rw [List.getElem?_zip_eq_some]; exact ⟨ex1, e3⟩)
    have hh : gdH K x = ks.map (PyData.keyHash w.params) := by
      have := congrArg (fun l : List (List Int) => l[g]?) hgh
      unfold Lw.gdW at this
      simp only [List.getElem?_map, ex1, e3] at this
      exact Option.some.inj this
    obtain ⟨a, a1, a2, a3⟩ := gdK_ok X G (List.all_eq_true.mp n2 _ hz) hh
    exact ⟨a, a1, a2, fun ks' vs' e => by rw [e3] at e; cases e; exact a3⟩
/-! ### the call of the law -/
section
variable {P : Program} {w : World} {K : PySem.W.Frag} {mg mb : Str → Option Value} {fa a : Addr} {s₁ : Shared} {vs : List Value} {ns : List Int}
/-- the script, unless it is one of the module's own objects, and the tables are tracked -/
def scH (K : PySem.W.Frag) (a : Addr) (vs : List Value) (ns : List Int) : Hp := fun b => match decide (b = a), K.lookup a, (tabT K).any fun p => decide (p.1 = b) with
  | true, none, _ => some (.frz { cls := .type "list", data := .seq vs.toArray } (.lst (ns.map V.int)))
  | true, some _, _ => none
  | false, _, true => some (.tbl #[])
  | false, _, false => none
theorem scH_some {b : Addr} {u : HO} (h : scH K a vs ns b = some u) : (b = a ∧ K.lookup a = none ∧ u = .frz { cls := .type "list", data := .seq vs.toArray } (.lst (ns.map V.int))) ∨ (b ≠ a ∧ (∃ p ∈ tabT K, p.1 = b) ∧ u = .tbl #[]) := by
  unfold scH at h
  split at h
  · rename_i e1 e2
    cases h
    exact .inl ⟨of_decide_eq_true e1, e2, rfl⟩
  · cases h
  · rename_i e1 e2
    cases h
    obtain ⟨p, hp, ep⟩ := List.any_eq_true.mp e2
    exact .inr ⟨of_decide_eq_false e1, ⟨p, hp, of_decide_eq_true ep⟩, rfl⟩
  · cases h
theorem law_callZ (KX : K.In s₁.heap) (hT : ∀ p ∈ tabT K, s₁.heap.get? p.1 = some { cls := .none, data := .fields #[] }) (hns : s₁.heap.Ns mainGlobals mg) (hb : s₁.heap.Ns builtinsNs mb) (hbb : ∀ x : Str, x ≠ "__name__" → mb x = bootBuiltins x) (hlim : s₁.heap.NoLimit) (hg : s₁.gens = #[])
    (hbm : ∃ (bm : Addr) (ob : Obj), mg "__builtins__" = some (.ref bm) ∧ bm ≠ builtinsNs ∧ s₁.heap.get? bm = some ob ∧ ob.cls = .type "module" ∧ ob.dict = some builtinsNs ∧ ob.data = .plain)
    (ha : s₁.heap.get? a = some { cls := .type "list", data := .seq vs.toArray }) (hi : IntsAre vs ns) (hl : ns.length ≤ sizeLine)
    (run : ∀ (base : Heap) (H : Hp), K.In base → (∀ p ∈ tabT K, base.BuiltinsAt mg p.1 ∧ mainGlobals ≠ p.1) → Env0 P w K mg base callerA [] s₁ H → LamX.Tabs (tabT K) H → ScAt K [] H a (ns.map V.int) →
      codeAny (model P w) callerA (.call (.ref fa) ⟨[.ref a], []⟩) (CR CX0 [] P w H s₁ (fun v _ => v = .bl true) fun _ _ _ => False) s₁) :
    codeAny (model P w) callerA (.call (.ref fa) ⟨[.ref a], []⟩) (fun r s' => r = .ok (.ret (.bool true)) ∧ OldK s₁.heap s'.heap ∧ s'.os = s₁.os ∧ AllBare s'.gens) s₁ := by
  have rv := vals_ints hi
  have hlen := hi.length
  have aT : ∀ p ∈ tabT K, p.1 ≠ a := fun p hp z => by
    have e := hT p hp
    rw [z, ha] at e
    cases e
  have tab : ∀ p ∈ tabT K, scH K a vs ns p.1 = some (.tbl #[]) := fun p hp => by
    unfold scH
    rw [decide_eq_false (aT p hp), show ((tabT K).any fun q => decide (q.1 = p.1)) = true from List.any_eq_true.mpr ⟨p, hp, decide_eq_true rfl⟩]
  have up : ∀ {b : Addr} {o : Obj}, s₁.heap.get? b = some o → (b = a → K.lookup a ≠ none) → (o.data ≠ .fields #[] ∨ K.lookup b ≠ none) → (hidT s₁.heap (scH K a vs ns)).get? b = some o := fun {b o} e n nt => hidT_get e (by
    cases q : scH K a vs ns b with
    | none => rfl
    | some u =>
      rcases scH_some q with ⟨q1, q2, _⟩ | ⟨_, ⟨p, hp, ep⟩, _⟩
      · exact absurd q2 (n q1)
      · rcases nt with nt | nt
        · have e2 := hT p hp
          rw [ep, e] at e2
          cases e2
          exact absurd rfl nt
        · obtain ⟨_, _, z⟩ := tabT_mem hp
          rw [ep] at z
          exact absurd z nt)
  have nsUp : ∀ {b : Addr} {m : Str → Option Value}, s₁.heap.Ns b m → (hidT s₁.heap (scH K a vs ns)).Ns b m := fun {b m} ⟨o, es, ep, e, d, r⟩ => ⟨o, es, ep, up e (fun z => by
    subst z
    rw [ha] at e
    cases e
    have d' : Data.seq vs.toArray _ = Data.dict es ep := d
    cases d') (.inl fun z => by rw [d] at z; cases z), d, r⟩
  have kUp : K.In (hidT s₁.heap (scH K a vs ns)) := fun b o e => up (KX b o e) (fun z => by
    subst z
    rw [e]
    intro z
    cases z) (.inr (by rw [e]; intro z; cases z))
  have hok : HOk P w (scH K a vs ns) s₁.heap := fun b u z => by
    rcases scH_some z with ⟨e1, _, e3⟩ | ⟨_, ⟨p, hp, ep⟩, e3⟩
    · subst e1 e3
      exact ⟨ha, by rw [List.length_map]; exact hl, vs, _, rv, ha⟩
    · subst e3 ep
      exact hT p hp
  have e0 : Env0 P w K mg (hidT s₁.heap (scH K a vs ns)) callerA [] s₁ (scH K a vs ns) :=
    ⟨rfl, ⟨kUp, nsUp hns, ⟨mb, nsUp hb, hbb⟩, let ⟨mc, h1, h2⟩ := hlim; ⟨mc, nsUp h1, h2⟩⟩, fun b o e => of_hidT e, Nat.le_of_eq (hidT_size _ _), trivial, fun b hb => absurd (show b ∈ ([] : List Addr) from hb) (by simp), hok, .of_eq hg⟩
  have TB : ∀ p ∈ tabT K, (hidT s₁.heap (scH K a vs ns)).BuiltinsAt mg p.1 ∧ mainGlobals ≠ p.1 := fun p hp => by
    obtain ⟨bm, ob, b1, b2, b3, b4, b5, b6⟩ := hbm
    have hTp := hT p hp
    have nG : bm ≠ mainGlobals := fun z => by
      obtain ⟨o, es, ep, e, hd, _⟩ := hns
      rw [z, e] at b3
      cases b3
      rw [b6] at hd
      cases hd
    have nP : bm ≠ p.1 := fun z => by
      rw [z, hTp] at b3
      cases b3
      cases b6
    refine ⟨⟨bm, ob, b1, b2, nG, nP, up b3 (fun z => ?_) (.inl fun z => by rw [b6] at z; cases z), b4, b5, b6⟩, fun z => ?_⟩
    · rw [z, ha] at b3
      cases b3
      cases b6
    · obtain ⟨o, es, ep, e, hd, _⟩ := hns
      rw [z, hTp] at e
      cases e
      cases hd
  have sc : ScAt K [] (scH K a vs ns) a (ns.map V.int) := by
    cases hk : K.lookup a with
    | some o =>
      have e := KX a o hk
      rw [ha] at e
      cases e
      exact .inr ⟨_, vs.toArray, _, hk, rfl, rfl, rfl, by rw [List.size_toArray, hlen]; exact hl, by simpa using rv⟩
    | none => exact .inl ⟨_, by unfold scH; rw [hk, decide_eq_true rfl], by simp⟩
  have tabs : LamX.Tabs (tabT K) (scH K a vs ns) := fun p hp => LamX.TabS.nil (tab p hp)
  refine codeAny_mono (run _ _ kUp TB e0 tabs sc) fun r s' h => ?_
  cases r with
  | error e => exact False.elim h
  | ok fl =>
    cases fl with
    | next => exact False.elim h
    | brk => exact False.elim h
    | cont => exact False.elim h
    | ret u =>
      obtain ⟨v, H', os, bare, un, hok', r', q⟩ := h
      have q' : v = .bl true := q
      subst q'
      obtain rfl : u = Value.bool true := r'
      have kept : ∀ b o, s₁.heap.get? b = some o → (∀ p ∈ tabT K, p.1 ≠ b) → s'.heap.get? b = some o := fun b o e nb => by
        cases q : scH K a vs ns b with
        | none => exact un.keep b o e q (by intro z; exact absurd (show b ∈ ([] : List Addr) from z) (by simp)) (by simp)
        | some u =>
          rcases scH_some q with ⟨e1, _, e3⟩ | ⟨_, ⟨p, hp, ep⟩, _⟩
          · subst e1 e3
            rw [ha] at e
            cases e
            exact (hok' _ _ (un.frzs _ _ _ q)).1
          · exact absurd ep (nb p hp)
      have grown : ∀ p ∈ tabT K, ∃ more : Array Value, s'.heap.get? p.1 = some { cls := .none, data := .fields more } := fun p hp => by
        obtain ⟨more, z⟩ := un.tbls p.1 #[] (tab p hp)
        exact ⟨_, hok' p.1 _ z⟩
      refine ⟨rfl, ⟨fun b o e => ?_, fun b o e => ?_⟩, os, bare⟩
      · by_cases hb : ∃ p ∈ tabT K, p.1 = b
        · obtain ⟨p, hp, ep⟩ := hb
          subst ep
          obtain ⟨more, hm⟩ := grown p hp
          have e2 := hT p hp
          rw [e2] at e
          cases e
          obtain ⟨c, hc, _⟩ := tabT_mem hp
          exact .inr (.inl ⟨((PySem.W.codeHd_of_K KX hc).tab e2).isCodeTable, rfl, #[], more, rfl, by rw [Array.empty_append]; exact hm⟩)
        · exact .inl (kept b o e fun p hp z => hb ⟨p, hp, z⟩)
      · by_cases hb : ∃ p ∈ tabT K, p.1 = b
        · obtain ⟨p, hp, ep⟩ := hb
          subst ep
          obtain ⟨more, hm⟩ := grown p hp
          exact ⟨_, hm⟩
        · exact ⟨o, kept b o e fun p hp z => hb ⟨p, hp, z⟩⟩
theorem rpl_of_ints {F : Hp} : ∀ ns : List Int, RpL K F (ns.map V.int) (ns.map D.int)
  | [] => .nil
  | n :: ns => .cons (.int n) (rpl_of_ints ns)
end
theorem rel_nil (K : PySem.W.Frag) (H : Hp) (t : LamX.Tabs (tabT K) H) : Rel K (fun _ => none) [] [] H := by
  refine ⟨fun b o e => ?_, rfl, List.nodup_nil, fun k b xs e _ => ?_, fun b hb => ?_, fun b o e => ?_, t, fun k b x fs e _ => by simp at e⟩
  · cases e
  · simp at e
  · simp at hb
  · cases e
/-- THE END: a law by its core -/
theorem law_end {l : PySem.W.OpenLaw} {L : Lw} {q : Program} {loose : List Str} {XP : (Str → Option Value) → Heap → Prop} {d : DefRec} {m k j n nn : Nat} {i : FnI} (hn : l.most = some n) (hn2 : n ≤ sizeLine) (hdf : d.params.defaults = []) (hc : L.ok m = true) (hB : L.Binds) (hr : Room (k + 1) callerA)
    (hj : L.fns[j]? = some i) (hd : d.name = i.x) (hf : L.exs ≠ [] → l.prog.main.file = L.file ∧ (l.prog.main.scope.names.lookup ("super" : Str)).isSome = false)
    (main : ∀ ns : List Int, ns.length ≤ n → (∀ x ∈ ns, Builtin.Int.intBits x ≤ 1048576) → L.md.call (k + 1) j [.sc (.lst (ns.map D.int))] [] = .ok (.t (.bl true)) []) :
    PySem.W.WalkO q loose XP (L.hook nn).says l.row.toRowW d [] (fun f vs => PySem.call f vs) := by
  refine Att.attach_callB hn hdf fun w s₀ s₁ mg mb fa o pm cd doc a vs ns G Y ho hd' hcd hmg hobj hints hlen hbits hg => ?_
  obtain ⟨K, KX, Y1, Y2, Y4, Y5, Y3⟩ := Y
  refine law_callZ KX Y3 G.T.g G.T.b G.T.builtins G.T.nolimit hg G.T.bmain hobj hints (Nat.le_trans hlen hn2) fun base Hp0 XB TB e0 tabs sc => ?_
  obtain ⟨_, hc1⟩ := b2a hc
  have H := head_ok (P := l.prog) (w := w) KX G.T.g Y1 Y2 TB XB Y4 Y5 (b2a hc1).2 hf
  obtain ⟨fd, e1, FD⟩ := H.fns i (List.mem_of_getElem? hj)
  rw [hd, e1] at hmg
  cases hmg
  obtain ⟨h1, _⟩ := b2a hc1
  obtain ⟨h1, _⟩ := b2a h1
  obtain ⟨h1, _⟩ := b2a h1
  obtain ⟨h1, _⟩ := b2a h1
  obtain ⟨h1, _⟩ := b2a h1
  obtain ⟨h1, _⟩ := b2a h1
  obtain ⟨h1, _⟩ := b2a h1
  obtain ⟨h1, _⟩ := b2a h1
  have st := sta_ok (P := l.prog) (w := w) (base := base) hc hB H k
  have hm := main ns hlen hbits
  have e : L.md.call (k + 1) j [.sc (.lst (ns.map D.int))] [] = runF (L.gx k) i.f [.sc (.lst (ns.map D.int))] [] := by
    rw [Md.call_eq]
    have : L.md.fns[j]? = some i.f := by
      show (L.fns.map (·.f))[j]? = _
      rw [List.getElem?_map, hj]
      rfl
    rw [this]
    rfl
  rw [e] at hm
  refine fn_run (xc := L.xc K) (vs := [.ref a]) (F := fun _ => none) (μ := []) (S := []) (bs := [.sc (.lst (ns.map D.int))]) (E' := fun _ _ _ => False) FD (fun _ => rfl) (List.all_eq_true.mp h1 i (List.mem_of_getElem? hj)) st hr rfl e0
    (fun hu => FunD.bindsA FD (hB.fns i (List.mem_of_getElem? hj)) s₁ _ hu) (.cons rfl .nil) (rel_nil K _ tabs)
    (.cons ⟨a, ns.map V.int, ns.map D.int, rfl, rfl, sc, rpl_of_ints ns⟩ .nil) ?_ fun cdv => fun u s' ⟨_, _, _, _, _, _, _, _, _, _, _, _, _, _, _, _, z⟩ => z.elim
  rw [hm]
  intro F' H' v x r bv fr
  exact rp_bl bv
end Zw
set_option maxHeartbeats 0
namespace Law
open Zw PySem
def c_MAX_HORIZON : D := (.int 100)
def c_GREAT : D := (.int 1000000000000000000000000000000000000000000000000000000000000)
def c_MAX_CELLS : D := (.int 24)
def c_MAX_WAYS : D := (.int 60)
def c_MAX_ORIGINS : D := (.int 24)
def c_MAX_BURN : D := (.int 100)
def c_BURN_histories : D := (.str (Str.ofString "burn"))
def c_CAUSE_histories : D := (.str (Str.ofString "cause"))
def c_MUST_histories : D := (.str (Str.ofString "must"))
def c_MAX_REPORTS : D := (.int 40)
def c_MAX_PAIRS : D := (.int 24)
def c_MAX_LAG : D := (.int 101)
def c_AHEAD : D := (.str (Str.ofString "ahead"))
def c_BEHIND : D := (.str (Str.ofString "behind"))
def c_BURNT : D := (.str (Str.ofString "burnt"))
def c_OUT : D := (.str (Str.ofString "out"))
def c_SOME : D := (.str (Str.ofString "some"))
def c_STILL : D := (.str (Str.ofString "still"))
def c_UNLESS : D := (.str (Str.ofString "unless"))
def c_WHOLE : D := (.str (Str.ofString "whole"))
def c_AT_AN_HOUR : D := (.tup [(.str (Str.ofString "burnt")), (.str (Str.ofString "out")), (.str (Str.ofString "still")), (.str (Str.ofString "whole"))])
def c_OF_TWO : D := (.tup [(.str (Str.ofString "ahead")), (.str (Str.ofString "behind"))])
def c_CAUSE_earliest : D := (.str (Str.ofString "cause"))
def c_MUST_earliest : D := (.str (Str.ofString "must"))
def c_BURN_earliest : D := (.str (Str.ofString "burn"))
def c_BACK : D := (.str (Str.ofString "back"))
def c_REPORT : D := (.str (Str.ofString "report"))
def c_END : D := (.str (Str.ofString "end"))
def c_MOST_LIES : D := (.int 10)
def c_FITS : D := (.str (Str.ofString "fits"))
def c_ROW : D := (.str (Str.ofString "row"))
def f_is_whole : Fn := ⟨1, 1, [(.ret (.andv [(.b1 (.isi .int) (.var 0)), (.notv (.b1 (.isi .bool) (.var 0))), (.chain .lt .lt (.neg (.gc 1)) (.var 0) (.gc 1))]))]⟩
def f_is_within : Fn := ⟨3, 3, [(.ret (.andv [(.call 0 [(.var 0)]), (.chain .le .le (.var 1) (.var 0) (.var 2))]))]⟩
def f_before : Fn := ⟨2, 2, [(.ite (.cmp .isN (.var 0) (.cst .non)) [(.ret (.var 1))] []), (.ret (.ife (.cmp .isN (.var 1) (.cst .non)) (.var 0) (.b2 .min2 (.var 0) (.var 1))))]⟩
def f_behind : Fn := ⟨2, 2, [(.ret (.ife (.orv [(.cmp .isN (.var 0) (.cst .non)), (.cmp .isN (.var 1) (.cst .non))]) (.cst .non) (.b2 .max2 (.var 0) (.var 1))))]⟩
def f_moved : Fn := ⟨3, 3, [(.ite (.orv [(.cmp .isN (.var 0) (.cst .non)), (.cmp .gt (.bin .add (.var 0) (.var 1)) (.var 2))]) [(.ret (.cst .non))] []), (.ret (.b2 .max2 (.cst (.int 0)) (.bin .add (.var 0) (.var 1))))]⟩
def f_goes_ahead : Fn := ⟨3, 3, [(.ret (.orv [(.cmp .isN (.var 1) (.cst .non)), (.andv [(.cmp .notN (.var 0) (.cst .non)), (.cmp .le (.var 0) (.bin .add (.var 1) (.var 2)))])]))]⟩
def f_is_row_of : Fn := ⟨2, 2, [(.ret (.andv [(.b1 (.isi .tuple) (.var 0)), (.cmp .eq (.b1 .len (.var 0)) (.var 1))]))]⟩
def f_is_burn : Fn := ⟨1, 1, [(.ret (.andv [(.call 6 [(.var 0), (.cst (.int 2))]), (.call 1 [(.ix (.var 0) (.cst (.int 0))), (.cst (.int 1)), (.gc 5)]), (.call 1 [(.ix (.var 0) (.cst (.int 1))), (.ix (.var 0) (.cst (.int 0))), (.gc 5)])]))]⟩
def f_is_way : Fn := ⟨4, 8, [(.ite (.orv [(.notv (.call 6 [(.var 3), (.cst (.int 5))])), (.notv (.b1 .all (.comp 0 [(.sl (.var 3) none (some (.cst (.int 2))))] (.nm 4) [4] [] (.call 1 [(.var 4), (.cst (.int 0)), (.bin .sub (.var 1) (.cst (.int 1)))])))), (.cmp .eq (.ix (.var 3) (.cst (.int 0))) (.ix (.var 3) (.cst (.int 1))))]) [(.ret (.cst (.bl false)))] []), (.asgT (.tup [(.nm 5), (.nm 6), (.nm 7)]) (.sl (.var 3) (some (.cst (.int 2))) none)), (.ite (.orv [(.notv (.call 0 [(.var 5)])), (.notv (.call 1 [(.var 6), (.cst (.int 1)), (.ix (.ix (.var 2) (.ix (.var 3) (.cst (.int 0)))) (.cst (.int 0)))])), (.notv (.chain .le .le (.cst (.int 1)) (.var 5) (.var 6)))]) [(.ret (.cst (.bl false)))] []), (.ret (.orv [(.cmp .isN (.var 7) (.cst .non)), (.call 1 [(.var 7), (.cst (.int 0)), (.var 0)])]))]⟩
def f_is_origin : Fn := ⟨3, 3, [(.ite (.orv [(.notv (.call 6 [(.var 2), (.cst (.int 3))])), (.notv (.call 1 [(.ix (.var 2) (.cst (.int 0))), (.cst (.int 0)), (.bin .sub (.var 1) (.cst (.int 1)))])), (.notv (.call 1 [(.ix (.var 2) (.cst (.int 1))), (.cst (.int 0)), (.var 0)]))]) [(.ret (.cst (.bl false)))] []), (.ret (.call 1 [(.ix (.var 2) (.cst (.int 2))), (.ix (.var 2) (.cst (.int 1))), (.var 0)]))]⟩
def f_land_fault : Fn := ⟨5, 6, [(.ite (.notv (.call 1 [(.var 0), (.cst (.int 1)), (.gc 0)])) [(.ret (.tup [(false, (.cst (.str (Str.ofString "horizon"))))]))] []), (.ite (.notv (.call 1 [(.var 1), (.cst (.int 1)), (.gc 2)])) [(.ret (.tup [(false, (.cst (.str (Str.ofString "cells"))))]))] []), (.ite (.notv (.call 6 [(.var 3), (.var 1)])) [(.ret (.tup [(false, (.cst (.str (Str.ofString "burns"))))]))] []), (.asg 5 (.oddF 0 (.var 3) 7)), (.frz 5), (.ite (.cmp .notN (.var 5) (.cst .non)) [(.ret (.tup [(false, (.cst (.str (Str.ofString "burn")))), (false, (.var 5))]))] []), (.ite (.orv [(.notv (.b1 (.isi .tuple) (.var 2))), (.cmp .gt (.b1 .len (.var 2)) (.gc 3))]) [(.ret (.tup [(false, (.cst (.str (Str.ofString "ways"))))]))] []), (.asg 5 (.oddL 0 (.var 2) (.call 8 [(.var 0), (.var 1), (.var 3), (.var 6)]))), (.frz 5), (.ite (.cmp .notN (.var 5) (.cst .non)) [(.ret (.tup [(false, (.cst (.str (Str.ofString "way")))), (false, (.var 5))]))] []), (.ite (.orv [(.notv (.b1 (.isi .tuple) (.var 4))), (.cmp .gt (.b1 .len (.var 4)) (.gc 4))]) [(.ret (.tup [(false, (.cst (.str (Str.ofString "origins"))))]))] []), (.asg 5 (.oddL 0 (.var 4) (.call 9 [(.var 0), (.var 1), (.var 6)]))), (.frz 5), (.ret (.ife (.cmp .isN (.var 5) (.cst .non)) (.cst .non) (.tup [(false, (.cst (.str (Str.ofString "origin")))), (false, (.var 5))])))]⟩
def f_require_land : Fn := ⟨1, 1, [(.ite (.notv (.b1 (.isi (.cls (Str.ofString "Land"))) (.var 0))) [(.raise 1)] [])]⟩
def f_is_cell_of : Fn := ⟨2, 2, [(.ret (.call 1 [(.var 1), (.cst (.int 0)), (.bin .sub (.att (Str.ofString "Land") 3 (.var 0)) (.cst (.int 1)))]))]⟩
def f_is_hour_of : Fn := ⟨2, 2, [(.ret (.call 1 [(.var 1), (.cst (.int 0)), (.att (Str.ofString "Land") 1 (.var 0))]))]⟩
def f_is_caught_row : Fn := ⟨2, 3, [(.ite (.orv [(.notv (.b1 (.isi .tuple) (.var 1))), (.cmp .ne (.b1 .len (.var 1)) (.att (Str.ofString "Land") 3 (.var 0)))]) [(.ret (.cst (.bl false)))] []), (.ret (.b1 .all (.comp 0 [(.var 1)] (.nm 2) [2] [] (.orv [(.cmp .isN (.var 2) (.cst .non)), (.call 13 [(.var 0), (.var 2)])]))))]⟩
def f_is_out_row : Fn := ⟨2, 3, [(.ite (.orv [(.notv (.b1 (.isi .tuple) (.var 1))), (.cmp .ne (.b1 .len (.var 1)) (.att (Str.ofString "Land") 3 (.var 0)))]) [(.ret (.cst (.bl false)))] []), (.ret (.b1 .all (.comp 0 [(.var 1)] (.nm 2) [2] [] (.orv [(.cmp .isN (.var 2) (.cst .non)), (.andv [(.call 0 [(.var 2)]), (.cmp .gt (.var 2) (.cst (.int 0)))])]))))]⟩
def f_is_draft_of : Fn := ⟨2, 2, [(.ite (.orv [(.notv (.b1 (.isi .tuple) (.var 1))), (.cmp .ne (.b1 .len (.var 1)) (.cst (.int 2)))]) [(.ret (.cst (.bl false)))] []), (.ret (.andv [(.call 14 [(.var 0), (.ix (.var 1) (.cst (.int 0)))]), (.call 15 [(.var 0), (.ix (.var 1) (.cst (.int 1)))])]))]⟩
def f_is_burn_kept : Fn := ⟨3, 7, [(.par [3, 4] [(.ix (.ix (.var 1) (.cst (.int 0))) (.var 2)), (.ix (.ix (.var 1) (.cst (.int 1))) (.var 2))]), (.ite (.orv [(.cmp .isN (.var 3) (.cst .non)), (.cmp .isN (.var 4) (.cst .non))]) [(.ret (.andv [(.cmp .isN (.var 3) (.cst .non)), (.cmp .isN (.var 4) (.cst .non))]))] []), (.asgT (.tup [(.nm 5), (.nm 6)]) (.ix (.att (Str.ofString "Land") 0 (.var 0)) (.var 2))), (.ret (.chain .le .le (.var 5) (.bin .sub (.var 4) (.var 3)) (.var 6)))]⟩
def f_can_come_by : Fn := ⟨3, 8, [(.asgT (.tup [(.nm 3), (.nm 4), (.nm 5), (.nm 6), (.nm 7)]) (.var 0)), (.ite (.orv [(.cmp .isN (.ix (.var 1) (.var 3)) (.cst .non)), (.cmp .gt (.bin .add (.ix (.var 1) (.var 3)) (.var 5)) (.var 2))]) [(.ret (.cst (.bl false)))] []), (.ret (.orv [(.cmp .isN (.var 7) (.cst .non)), (.cmp .lt (.var 2) (.var 7))]))]⟩
def f_is_caused : Fn := ⟨3, 8, [(.asg 3 (.ix (.var 1) (.var 2))), (.ite (.cmp .isN (.var 3) (.cst .non)) [(.ret (.cst (.bl true)))] []), (.ite (.b1 .any (.comp 0 [(.att (Str.ofString "Land") 2 (.var 0))] (.tup [(.nm 4), (.nm 5), (.nm 6)]) [4, 5, 6] [] (.andv [(.cmp .eq (.var 4) (.var 2)), (.chain .le .le (.var 5) (.var 3) (.var 6))]))) [(.ret (.cst (.bl true)))] []), (.ret (.b1 .any (.comp 0 [(.att (Str.ofString "Land") 4 (.var 0))] (.nm 7) [7] [] (.andv [(.cmp .eq (.ix (.var 7) (.cst (.int 1))) (.var 2)), (.call 18 [(.var 7), (.var 1), (.var 3)])]))))]⟩
def f_due_hour : Fn := ⟨3, 9, [(.asgT (.tup [(.nm 3), (.nm 4), (.nm 5), (.nm 6), (.nm 7)]) (.ix (.att (Str.ofString "Land") 4 (.var 0)) (.var 2))), (.ite (.cmp .isN (.ix (.var 1) (.var 3)) (.cst .non)) [(.ret (.cst .non))] []), (.asg 8 (.bin .add (.ix (.var 1) (.var 3)) (.var 6))), (.ite (.orv [(.cmp .gt (.var 8) (.att (Str.ofString "Land") 1 (.var 0))), (.andv [(.cmp .notN (.var 7) (.cst .non)), (.cmp .le (.var 7) (.var 8))])]) [(.ret (.cst .non))] []), (.ret (.var 8))]⟩
def f_is_must_kept : Fn := ⟨3, 5, [(.par [3, 4] [(.call 20 [(.var 0), (.var 1), (.var 2)]), (.ix (.var 1) (.ix (.ix (.att (Str.ofString "Land") 4 (.var 0)) (.var 2)) (.cst (.int 1))))]), (.frz 3), (.ret (.orv [(.cmp .isN (.var 3) (.cst .non)), (.andv [(.cmp .notN (.var 4) (.cst .non)), (.cmp .le (.var 4) (.var 3))])]))]⟩
def f_faults_in : Fn := ⟨2, 5, [(.asg 2 (.comp 1 [(.att (Str.ofString "Land") 3 (.var 0))] (.nm 3) [3] [(.notv (.call 17 [(.var 0), (.var 1), (.var 3)]))] (.tup [(false, (.gc 6)), (false, (.var 3))]))), (.ext 2 (.comp 1 [(.att (Str.ofString "Land") 3 (.var 0))] (.nm 3) [3] [(.notv (.call 19 [(.var 0), (.ix (.var 1) (.cst (.int 0))), (.var 3)]))] (.tup [(false, (.gc 7)), (false, (.var 3))]))), (.ext 2 (.comp 1 [(.b1 .len (.att (Str.ofString "Land") 4 (.var 0)))] (.nm 4) [4] [(.notv (.call 21 [(.var 0), (.ix (.var 1) (.cst (.int 0))), (.var 4)]))] (.tup [(false, (.gc 8)), (false, (.var 4))]))), (.ret (.var 2))]⟩
def f_is_fitting_in : Fn := ⟨2, 2, [(.ret (.andv [(.call 16 [(.var 0), (.var 1)]), (.cmp .eq (.call 22 [(.var 0), (.var 1)]) (.lst []))]))]⟩
def f_is_pair_of : Fn := ⟨2, 2, [(.ret (.andv [(.b1 (.isi .tuple) (.var 1)), (.cmp .eq (.b1 .len (.var 1)) (.cst (.int 2))), (.call 12 [(.var 0), (.ix (.var 1) (.cst (.int 0)))]), (.call 13 [(.var 0), (.ix (.var 1) (.cst (.int 1)))])]))]⟩
def f_are_pairs_of : Fn := ⟨2, 4, [(.ite (.orv [(.notv (.b1 (.isi .tuple) (.var 1))), (.cmp .gt (.b1 .len (.var 1)) (.gc 10)), (.notv (.b1 .all (.comp 0 [(.var 1)] (.nm 2) [2] [] (.call 24 [(.var 0), (.var 2)]))))]) [(.ret (.cst (.bl false)))] []), (.ret (.b1 .all (.comp 4 [(.var 1), (.sl (.var 1) (some (.cst (.int 1))) none)] (.tup [(.nm 2), (.nm 3)]) [2, 3] [] (.cmp .lt (.var 2) (.var 3)))))]⟩
def f_is_report_of : Fn := ⟨2, 4, [(.ite (.orv [(.notv (.b1 (.isi .tuple) (.var 1))), (.cmp .eq (.var 1) (.tup [])), (.notv (.b1 (.isi .str) (.ix (.var 1) (.cst (.int 0)))))]) [(.ret (.cst (.bl false)))] []), (.par [2, 3] [(.ix (.var 1) (.cst (.int 0))), (.sl (.var 1) (some (.cst (.int 1))) none)]), (.frz 3), (.ite (.cmp .in_ (.var 2) (.gc 20)) [(.ret (.call 24 [(.var 0), (.var 3)]))] []), (.ite (.cmp .in_ (.var 2) (.gc 21)) [(.ite (.orv [(.cmp .ne (.b1 .len (.var 3)) (.cst (.int 3))), (.notv (.call 12 [(.var 0), (.ix (.var 3) (.cst (.int 0)))])), (.notv (.call 12 [(.var 0), (.ix (.var 3) (.cst (.int 1)))]))]) [(.ret (.cst (.bl false)))] []), (.ret (.call 1 [(.ix (.var 3) (.cst (.int 2))), (.neg (.gc 11)), (.gc 11)]))] []), (.ite (.cmp .eq (.var 2) (.gc 18)) [(.ret (.andv [(.cmp .eq (.b1 .len (.var 3)) (.cst (.int 3))), (.call 24 [(.var 0), (.sl (.var 3) none (some (.cst (.int 2))))]), (.call 25 [(.var 0), (.ix (.var 3) (.cst (.int 2)))])]))] []), (.ret (.andv [(.cmp .eq (.var 2) (.gc 16)), (.cmp .eq (.b1 .len (.var 3)) (.cst (.int 1))), (.call 25 [(.var 0), (.ix (.var 3) (.cst (.int 0)))]), (.cmp .ne (.ix (.var 3) (.cst (.int 0))) (.tup []))]))]⟩
def f_are_reports_of : Fn := ⟨2, 3, [(.ite (.orv [(.notv (.b1 (.isi .tuple) (.var 1))), (.cmp .gt (.b1 .len (.var 1)) (.gc 9))]) [(.ret (.cst (.bl false)))] []), (.ret (.b1 .all (.comp 0 [(.var 1)] (.nm 2) [2] [] (.call 26 [(.var 0), (.var 2)]))))]⟩
def f_is_by : Fn := ⟨2, 2, [(.ret (.andv [(.cmp .notN (.var 0) (.cst .non)), (.cmp .le (.var 0) (.var 1))]))]⟩
def f_is_some_burnt : Fn := ⟨2, 4, [(.ret (.b1 .any (.comp 0 [(.var 1)] (.tup [(.nm 2), (.nm 3)]) [2, 3] [] (.call 28 [(.ix (.ix (.var 0) (.cst (.int 0))) (.var 2)), (.var 3)]))))]⟩
def f_do_two_hold : Fn := ⟨5, 7, [(.par [5, 6] [(.ix (.ix (.var 0) (.cst (.int 0))) (.var 2)), (.ix (.ix (.var 0) (.cst (.int 0))) (.var 3))]), (.ite (.cmp .eq (.var 1) (.gc 12)) [(.ret (.call 5 [(.var 5), (.var 6), (.var 4)]))] []), (.ret (.andv [(.cmp .notN (.var 6) (.cst .non)), (.call 5 [(.var 6), (.var 5), (.neg (.var 4))])]))]⟩
def f_does_hold_in : Fn := ⟨2, 4, [(.par [2, 3] [(.ix (.var 1) (.cst (.int 0))), (.sl (.var 1) (some (.cst (.int 1))) none)]), (.frz 3), (.ite (.cmp .eq (.var 2) (.gc 14)) [(.ret (.call 28 [(.ix (.ix (.var 0) (.cst (.int 0))) (.ix (.var 3) (.cst (.int 0)))), (.ix (.var 3) (.cst (.int 1)))]))] []), (.ite (.cmp .eq (.var 2) (.gc 19)) [(.ret (.notv (.call 28 [(.ix (.ix (.var 0) (.cst (.int 0))) (.ix (.var 3) (.cst (.int 0)))), (.ix (.var 3) (.cst (.int 1)))])))] []), (.ite (.cmp .eq (.var 2) (.gc 15)) [(.ret (.call 28 [(.ix (.ix (.var 0) (.cst (.int 1))) (.ix (.var 3) (.cst (.int 0)))), (.ix (.var 3) (.cst (.int 1)))]))] []), (.ite (.cmp .eq (.var 2) (.gc 17)) [(.ret (.notv (.call 28 [(.ix (.ix (.var 0) (.cst (.int 1))) (.ix (.var 3) (.cst (.int 0)))), (.ix (.var 3) (.cst (.int 1)))])))] []), (.ite (.cmp .in_ (.var 2) (.gc 21)) [.never] []), (.ite (.cmp .eq (.var 2) (.gc 18)) [(.ret (.orv [(.notv (.call 28 [(.ix (.ix (.var 0) (.cst (.int 0))) (.ix (.var 3) (.cst (.int 0)))), (.ix (.var 3) (.cst (.int 1)))])), (.call 29 [(.var 0), (.ix (.var 3) (.cst (.int 2)))])]))] []), (.ret (.call 29 [(.var 0), (.ix (.var 3) (.cst (.int 0)))]))]⟩
def f_do_hold_in : Fn := ⟨2, 3, [(.ret (.b1 .all (.comp 0 [(.var 1)] (.nm 2) [2] [] (.call 31 [(.var 0), (.var 2)]))))]⟩
def f_require_reports : Fn := ⟨2, 2, [(.ite (.notv (.call 27 [(.var 0), (.var 1)])) [(.raise 3)] [])]⟩
def f_rules_of : Fn := ⟨2, 6, [(.asg 2 (.rngv (.att (Str.ofString "Land") 3 (.var 0)))), (.frz 2), (.asg 3 (.comp 1 [(.b1 .len (.var 1))] (.nm 4) [4] [] (.tup [(false, (.gc 26)), (false, (.var 4))]))), (.for_ false 0 [(.var 2)] (.nm 5) [(.ext 3 (.lst [(false, (.tup [(false, (.gc 22)), (false, (.var 5))])), (false, (.tup [(false, (.gc 24)), (false, (.var 5))])), (false, (.tup [(false, (.gc 25)), (false, (.var 5))]))]))]), (.ext 3 (.comp 1 [(.b1 .len (.att (Str.ofString "Land") 4 (.var 0)))] (.nm 4) [4] [] (.tup [(false, (.gc 23)), (false, (.var 4))]))), (.ret (.var 3))]⟩
def f_ended : Fn := ⟨2, 9, [(.newP 2 0 [(.var 0), (.var 1)] [3, 4, 5] [(.call 34 [(.var 0), (.var 1)]), (.lst []), (.cst (.bl false))]), (.frz 3), (.while_ (.notv (.var 5)) [(.asg 5 (.cst (.bl true))), (.for_ false 0 [(.var 3)] (.nm 6) [(.asg 7 (.att (Str.ofString "Bounds") 1 (.var 2))), (.frz 7), (.expr (.meth (Str.ofString "Bounds") 95 (.var 2) [(.var 6)])), (.ite (.cmp .ne (.att (Str.ofString "Bounds") 1 (.var 2)) (.var 7)) [(.app 4 (.var 6)), (.asg 5 (.cst (.bl false)))] [])]), (.for_ false 1 [(.b1 .len (.var 1))] (.nm 8) [(.ite (.meth (Str.ofString "Bounds") 96 (.var 2) [(.var 8)]) [(.retO true [(.var 2), (.var 4), (.var 8)])] [])])]), (.retO true [(.var 2), (.var 4), (.cst .non)])]⟩
def f_least_in : Fn := ⟨2, 5, [(.asgT (.tup [(.nm 2), (.nm 3), (.nm 4)]) (.call 35 [(.var 0), (.var 1)])), (.ret (.ife (.cmp .notN (.var 4) (.cst .non)) (.cst .non) (.meth (Str.ofString "Bounds") 84 (.var 2) [])))]⟩
def f_row_in : Fn := ⟨2, 5, [(.asgT (.tup [(.nm 2), (.nm 3), (.nm 4)]) (.call 35 [(.var 0), (.var 1)])), (.ret (.tup [(true, (.var 3)), (false, (.tup [(false, (.gc 27)), (false, (.var 4))]))]))]⟩
def f_is_rule_of : Fn := ⟨3, 5, [(.ite (.orv [(.notv (.b1 (.isi .tuple) (.var 2))), (.cmp .ne (.b1 .len (.var 2)) (.cst (.int 2))), (.notv (.b1 (.isi .str) (.ix (.var 2) (.cst (.int 0))))), (.notv (.call 0 [(.ix (.var 2) (.cst (.int 1)))]))]) [(.ret (.cst (.bl false)))] []), (.asg 3 (.att (Str.ofString "Land") 3 (.var 0))), (.frz 3), (.asg 4 (.dct [(false, (.gc 22)), (false, (.var 3)), (false, (.gc 24)), (false, (.var 3)), (false, (.gc 25)), (false, (.var 3)), (false, (.gc 23)), (false, (.b1 .len (.att (Str.ofString "Land") 4 (.var 0)))), (false, (.gc 26)), (false, (.b1 .len (.var 1)))])), (.frz 4), (.ret (.andv [(.cmp .in_ (.ix (.var 2) (.cst (.int 0))) (.var 4)), (.chain .le .lt (.cst (.int 0)) (.ix (.var 2) (.cst (.int 1))) (.ix (.var 4) (.ix (.var 2) (.cst (.int 0)))))]))]⟩
def f_are_rules_of : Fn := ⟨3, 4, [(.ret (.andv [(.b1 (.isi .tuple) (.var 2)), (.b1 .all (.comp 0 [(.var 2)] (.nm 3) [3] [] (.call 38 [(.var 0), (.var 1), (.var 3)])))]))]⟩
def f_led_by : Fn := ⟨3, 5, [(.newP 3 0 [(.var 0), (.var 1)] [] []), (.for_ false 0 [(.var 2)] (.nm 4) [(.expr (.meth (Str.ofString "Bounds") 95 (.var 3) [(.var 4)]))]), (.retO false [(.var 3)])]⟩
def f_is_row_in : Fn := ⟨3, 4, [(.ite (.orv [(.notv (.b1 (.isi .tuple) (.var 2))), (.cmp .eq (.var 2) (.tup [])), (.notv (.call 39 [(.var 0), (.var 1), (.sl (.var 2) none (some (.neg (.cst (.int 1)))))]))]) [(.ret (.cst (.bl false)))] []), (.asg 3 (.ix (.var 2) (.neg (.cst (.int 1))))), (.ite (.orv [(.notv (.b1 (.isi .tuple) (.var 3))), (.cmp .ne (.b1 .len (.var 3)) (.cst (.int 2))), (.cmp .ne (.ix (.var 3) (.cst (.int 0))) (.gc 27)), (.notv (.call 0 [(.ix (.var 3) (.cst (.int 1)))]))]) [(.ret (.cst (.bl false)))] []), (.ret (.andv [(.chain .le .lt (.cst (.int 0)) (.ix (.var 3) (.cst (.int 1))) (.b1 .len (.var 1))), (.meth (Str.ofString "Bounds") 96 (.call 40 [(.var 0), (.var 1), (.sl (.var 2) none (some (.neg (.cst (.int 1)))))]) [(.ix (.var 3) (.cst (.int 1)))])]))]⟩
def f_of_lot : Fn := ⟨2, 3, [(.ret (.b1 .tuple (.comp 0 [(.var 1)] (.nm 2) [2] [] (.ix (.var 0) (.var 2)))))]⟩
def f_is_true_lot : Fn := ⟨3, 3, [(.ret (.cmp .notN (.call 36 [(.var 0), (.call 42 [(.var 1), (.var 2)])]) (.cst .non)))]⟩
def f_struck : Fn := ⟨3, 7, [(.asg 3 (.b1 .list (.var 2))), (.frz 3), (.for_ false 0 [(.var 2)] (.nm 4) [(.asg 5 (.comp 0 [(.var 3)] (.nm 6) [6] [(.cmp .ne (.var 6) (.var 4))] (.var 6))), (.frz 5), (.ite (.notv (.call 43 [(.var 0), (.var 1), (.var 5)])) [(.asg 3 (.var 5)), (.frz 3)] [])]), (.ret (.b1 .tuple (.var 3)))]⟩
def f_others_of : Fn := ⟨2, 3, [(.ret (.b1 .tuple (.comp 0 [(.var 0)] (.nm 2) [2] [(.cmp .ne (.var 2) (.var 1))] (.var 2))))]⟩
def f_is_some_lie : Fn := ⟨3, 4, [(.ite (.call 43 [(.var 0), (.var 1), (.var 2)]) [(.ret (.cst (.bl false)))] []), (.ret (.b1 .all (.comp 0 [(.var 2)] (.nm 3) [3] [] (.call 43 [(.var 0), (.var 1), (.call 45 [(.var 2), (.var 3)])]))))]⟩
def f_is_some_truth : Fn := ⟨3, 5, [(.ite (.notv (.call 43 [(.var 0), (.var 1), (.var 2)])) [(.ret (.cst (.bl false)))] []), (.asg 3 (.comp 1 [(.b1 .len (.var 1))] (.nm 4) [4] [(.cmp .notIn (.var 4) (.var 2))] (.var 4))), (.frz 3), .never]⟩
def f_all_lots : Fn := ⟨1, 4, [(.asg 1 (.lst [(false, (.tup []))])), (.for_ false 1 [(.var 0)] (.nm 2) [(.ext 1 (.comp 0 [(.var 1)] (.nm 3) [3] [] (.tup [(true, (.var 3)), (false, (.var 2))])))]), .never]⟩
def f_are_within : Fn := ⟨2, 3, [(.ret (.b1 .all (.comp 0 [(.var 0)] (.nm 2) [2] [] (.cmp .in_ (.var 2) (.var 1)))))]⟩
def f_lies_in : Fn := ⟨2, 5, [(.asg 2 (.lst [])), (.for_ false 0 [(.call 48 [(.b1 .len (.var 1))])] (.nm 3) [(.ite (.andv [(.notv (.b1 .any (.comp 0 [(.var 2)] (.nm 4) [4] [] (.call 49 [(.var 4), (.var 3)])))), (.notv (.call 43 [(.var 0), (.var 1), (.var 3)]))]) [(.app 2 (.var 3))] [])]), .never]⟩
def f_truths_of : Fn := ⟨2, 6, [(.asg 2 (.lst [])), .never, .never]⟩
def f_left_out : Fn := ⟨2, 3, [(.ret (.b1 .tuple (.comp 1 [(.var 1)] (.nm 2) [2] [(.cmp .notIn (.var 2) (.var 0))] (.var 2))))]⟩
def f_most_apart : Fn := ⟨1, 6, [(.ite (.cmp .eq (.var 0) (.lst [])) [(.ret (.cst (.int 0)))] []), (.asgT (.tup [(.nm 1), (.nm 2)]) (.tup [(false, (.ix (.var 0) (.cst (.int 0)))), (false, (.sl (.var 0) (some (.cst (.int 1))) none))])), (.asg 3 (.comp 0 [(.var 2)] (.nm 4) [4] [(.notv (.b1 .any (.comp 0 [(.var 4)] (.nm 5) [5] [] (.cmp .in_ (.var 5) (.var 1)))))] (.var 4))), (.frz 3), (.ret (.b2 .max2 (.call 53 [(.var 2)]) (.bin .add (.cst (.int 1)) (.call 53 [(.var 3)]))))]⟩
def f_require_told : Fn := ⟨2, 2, [(.expr (.call 11 [(.var 0)])), (.expr (.call 33 [(.var 0), (.var 1)]))]⟩
def f_is_lot_of : Fn := ⟨2, 4, [(.ite (.orv [(.notv (.b1 (.isi .tuple) (.var 1))), (.notv (.b1 .all (.comp 0 [(.var 1)] (.nm 2) [2] [] (.call 0 [(.var 2)]))))]) [(.ret (.cst (.bl false)))] []), (.ret (.b1 .all (.comp 4 [(.tup [(false, (.neg (.cst (.int 1)))), (true, (.var 1))]), (.tup [(true, (.var 1)), (false, (.b1 .len (.var 0)))])] (.tup [(.nm 2), (.nm 3)]) [2, 3] [] (.cmp .lt (.var 2) (.var 3)))))]⟩
def f_require_lot : Fn := ⟨3, 3, [(.expr (.call 54 [(.var 0), (.var 1)])), (.ite (.notv (.call 55 [(.var 1), (.var 2)])) [(.raise 4)] [])]⟩
def f_require_few : Fn := ⟨1, 1, [(.ite (.cmp .gt (.b1 .len (.var 0)) (.gc 28)) [(.raise1 6 (.gc 28))] [])]⟩
def f_known_lies : Fn := ⟨2, 2, [(.expr (.call 54 [(.var 0), (.var 1)])), (.expr (.call 57 [(.var 1)])), (.ret (.call 50 [(.var 0), (.var 1)]))]⟩
def f_can_be_true : Fn := ⟨3, 3, [(.expr (.call 56 [(.var 0), (.var 1), (.var 2)])), (.ret (.call 43 [(.var 0), (.var 1), (.var 2)]))]⟩
def f_true_paper : Fn := ⟨3, 5, [(.expr (.call 56 [(.var 0), (.var 1), (.var 2)])), (.asg 3 (.call 42 [(.var 1), (.var 2)])), (.frz 3), (.asg 4 (.call 36 [(.var 0), (.var 3)])), (.frz 4), (.ret (.ife (.cmp .isN (.var 4) (.cst .non)) (.tup [(false, (.gc 30)), (false, (.call 37 [(.var 0), (.var 3)]))]) (.tup [(false, (.gc 29)), (false, (.var 4))])))]⟩
def f_is_true_paper : Fn := ⟨4, 5, [(.expr (.call 56 [(.var 0), (.var 1), (.var 2)])), (.ite (.orv [(.notv (.b1 (.isi .tuple) (.var 3))), (.cmp .ne (.b1 .len (.var 3)) (.cst (.int 2))), (.cmp .notIn (.ix (.var 3) (.cst (.int 0))) (.tup [(false, (.gc 29)), (false, (.gc 30))]))]) [(.ret (.cst (.bl false)))] []), (.asg 4 (.call 42 [(.var 1), (.var 2)])), (.frz 4), (.ite (.cmp .eq (.ix (.var 3) (.cst (.int 0))) (.gc 30)) [(.ret (.call 41 [(.var 0), (.var 4), (.ix (.var 3) (.cst (.int 1)))]))] []), (.ret (.andv [(.call 23 [(.var 0), (.ix (.var 3) (.cst (.int 1)))]), (.call 32 [(.ix (.var 3) (.cst (.int 1))), (.var 4)])]))]⟩
def f_lie_within : Fn := ⟨3, 3, [(.expr (.call 56 [(.var 0), (.var 1), (.var 2)])), (.ret (.ife (.call 43 [(.var 0), (.var 1), (.var 2)]) (.cst .non) (.call 44 [(.var 0), (.var 1), (.var 2)])))]⟩
def f_is_lie : Fn := ⟨3, 3, [(.expr (.call 56 [(.var 0), (.var 1), (.var 2)])), (.ret (.call 46 [(.var 0), (.var 1), (.var 2)]))]⟩
def f_is_truth : Fn := ⟨3, 3, [(.expr (.call 56 [(.var 0), (.var 1), (.var 2)])), (.ret (.call 47 [(.var 0), (.var 1), (.var 2)]))]⟩
def f_lie_paper : Fn := ⟨3, 5, [(.expr (.call 56 [(.var 0), (.var 1), (.var 2)])), (.ite (.notv (.call 46 [(.var 0), (.var 1), (.var 2)])) [(.ret (.cst .non))] []), (.asg 3 (.comp 0 [(.var 2)] (.nm 4) [4] [] (.call 36 [(.var 0), (.call 42 [(.var 1), (.call 45 [(.var 2), (.var 4)])])]))), (.frz 3), (.ret (.tup [(false, (.call 37 [(.var 0), (.call 42 [(.var 1), (.var 2)])])), (false, (.b1 .tuple (.var 3)))]))]⟩
def f_is_lie_paper : Fn := ⟨4, 6, [(.expr (.call 56 [(.var 0), (.var 1), (.var 2)])), (.ite (.cmp .isN (.var 3) (.cst .non)) [(.ret (.notv (.call 46 [(.var 0), (.var 1), (.var 2)])))] []), (.ite (.orv [(.notv (.b1 (.isi .tuple) (.var 3))), (.cmp .ne (.b1 .len (.var 3)) (.cst (.int 2))), (.notv (.call 41 [(.var 0), (.call 42 [(.var 1), (.var 2)]), (.ix (.var 3) (.cst (.int 0)))]))]) [(.ret (.cst (.bl false)))] []), (.ite (.orv [(.notv (.b1 (.isi .tuple) (.ix (.var 3) (.cst (.int 1))))), (.cmp .ne (.b1 .len (.ix (.var 3) (.cst (.int 1)))) (.b1 .len (.var 2)))]) [(.ret (.cst (.bl false)))] []), (.for_ false 4 [(.var 2), (.ix (.var 3) (.cst (.int 1)))] (.tup [(.nm 4), (.nm 5)]) [(.ite (.orv [(.notv (.call 23 [(.var 0), (.var 5)])), (.notv (.call 32 [(.var 5), (.call 42 [(.var 1), (.call 45 [(.var 2), (.var 4)])])]))]) [(.ret (.cst (.bl false)))] [])]), (.ret (.cst (.bl true)))]⟩
def f_all_lies : Fn := ⟨2, 2, [(.ret (.b1 .tuple (.call 58 [(.var 0), (.var 1)])))]⟩
def f_all_truths : Fn := ⟨2, 2, [(.ret (.b1 .tuple (.call 51 [(.call 58 [(.var 0), (.var 1)]), (.b1 .len (.var 1))])))]⟩
def f_suspects : Fn := ⟨2, 5, [(.asg 2 (.call 58 [(.var 0), (.var 1)])), (.frz 2), (.ret (.b1 .tuple (.comp 1 [(.b1 .len (.var 1))] (.nm 3) [3] [(.b1 .any (.comp 0 [(.var 2)] (.nm 4) [4] [] (.cmp .in_ (.var 3) (.var 4))))] (.var 3))))]⟩
def f_guilty : Fn := ⟨2, 5, [(.asg 2 (.call 58 [(.var 0), (.var 1)])), (.frz 2), (.ite (.cmp .eq (.var 2) (.lst [])) [(.ret (.tup []))] []), (.ret (.b1 .tuple (.comp 1 [(.b1 .len (.var 1))] (.nm 3) [3] [(.b1 .all (.comp 0 [(.var 2)] (.nm 4) [4] [] (.cmp .in_ (.var 3) (.var 4))))] (.var 3))))]⟩
def f_fewest_false : Fn := ⟨2, 6, [(.asg 2 (.call 51 [(.call 58 [(.var 0), (.var 1)]), (.b1 .len (.var 1))])), (.frz 2), (.asg 3 (.comp 0 [(.var 2)] (.nm 4) [4] [] (.call 52 [(.var 4), (.b1 .len (.var 1))]))), (.frz 3), .never, .never]⟩
def f_truth_with : Fn := ⟨3, 5, [(.expr (.call 54 [(.var 0), (.var 1)])), (.ite (.orv [(.notv (.call 0 [(.var 2)])), (.notv (.chain .le .lt (.cst (.int 0)) (.var 2) (.b1 .len (.var 1))))]) [(.raise1 5 (.var 2))] []), (.asg 3 (.comp 0 [(.call 51 [(.call 58 [(.var 0), (.var 1)]), (.b1 .len (.var 1))])] (.nm 4) [4] [(.cmp .in_ (.var 2) (.var 4))] (.var 4))), (.frz 3), (.ret (.ife (.cmp .ne (.var 3) (.lst [])) (.ix (.var 3) (.cst (.int 0))) (.cst .non)))]⟩
def f_apart_lies : Fn := ⟨2, 2, [(.ret (.call 53 [(.call 58 [(.var 0), (.var 1)])]))]⟩
def f__law_bag : Fn := ⟨2, 4, [(.asg 2 (.ife (.cmp .lt (.var 1) (.b1 .len (.var 0))) (.b1 .int (.ix (.var 0) (.var 1))) (.bin .add (.bin .mul (.cst (.int 149)) (.var 1)) (.cst (.int 83))))), (.asg 3 (.bin .mod (.b2 .max2 (.cst (.int 0)) (.bin .sub (.b1 .abs (.var 2)) (.bin .pow (.cst (.int 10)) (.cst (.int 16))))) (.bin .mul (.bin .pow (.cst (.int 10)) (.cst (.int 58))) (.bin .pow (.cst (.int 10)) (.cst (.int 59)))))), (.ret (.lst [(false, (.var 3)), (false, (.bin .add (.bin .add (.bin .add (.bin .mul (.bin .mod (.b1 .abs (.var 2)) (.cst (.int 1152921504606846999))) (.cst (.int 101))) (.bin .mul (.cst (.int 1049)) (.var 1))) (.bin .mul (.cst (.int 59)) (.b1 .int (.cmp .lt (.var 2) (.cst (.int 0)))))) (.cst (.int 29)))), (false, (.cst (.int 0)))]))]⟩
def f__law_draw : Fn := ⟨2, 5, [(.ite (.cmp .gt (.ix (.var 0) (.cst (.int 0))) (.cst (.int 0))) [(.asg 2 (.bin .mod (.b1 .int (.ix (.var 0) (.cst (.int 0)))) (.var 1))), (.setIx 0 (.cst (.int 0)) (.bin .fdiv (.ix (.var 0) (.cst (.int 0))) (.var 1))), (.ret (.var 2))] []), (.setIx 0 (.cst (.int 2)) (.bin .add (.ix (.var 0) (.cst (.int 2))) (.cst (.int 1)))), (.asg 3 (.bin .mod (.b1 .int (.bin .add (.ix (.var 0) (.cst (.int 1))) (.bin .mul (.cst (.int 86028121)) (.ix (.var 0) (.cst (.int 2)))))) (.cst (.int 2305843009213693951)))), (.asg 4 (.bin .add (.bin .mul (.bin .mod (.b1 .int (.bin .add (.bin .mul (.var 3) (.var 3)) (.bin .mul (.cst (.int 107)) (.ix (.var 0) (.cst (.int 2)))))) (.cst (.int 2305843009213693921))) (.cst (.int 3999971))) (.var 3))), (.ret (.bin .mod (.b1 .int (.bin .fdiv (.var 4) (.cst (.int 65539)))) (.var 1)))]⟩
def f__law_one_of : Fn := ⟨2, 2, [(.ret (.ix (.var 1) (.call 75 [(.var 0), (.b1 .len (.var 1))])))]⟩
def f__law_mixed : Fn := ⟨2, 5, [(.asg 2 (.b1 .list (.var 1))), (.for_ false 5 [(.bin .sub (.b1 .len (.var 2)) (.cst (.int 1))), (.cst (.int 0)), (.neg (.cst (.int 1)))] (.nm 3) [(.asg 4 (.call 75 [(.var 0), (.bin .add (.var 3) (.cst (.int 1)))])), (.frz 4), (.swp 2 (.var 3) (.var 4) (.tup [(false, (.ix (.var 2) (.var 4))), (false, (.ix (.var 2) (.var 3)))]))]), (.ret (.var 2))]⟩
def f__law_lots : Fn := ⟨3, 4, [(.asg 3 (.lst [(false, (.tell 0 (.call 59 [(.var 0), (.var 1), (.var 2)]))), (false, (.tell 0 (.call 60 [(.var 0), (.var 1), (.var 2)])))])), (.frz 3), (.asg 3 (.bin .add (.var 3) (.lst [(false, (.tell 0 (.call 61 [(.var 0), (.var 1), (.var 2), (.cst .non)]))), (false, (.tell 0 (.call 62 [(.var 0), (.var 1), (.var 2)])))]))), (.frz 3), (.asg 3 (.bin .add (.var 3) (.lst [(false, (.tell 0 (.call 63 [(.var 0), (.var 1), (.var 2)]))), (false, (.tell 0 (.call 64 [(.var 0), (.var 1), (.var 2)])))]))), (.frz 3), (.ret (.bin .add (.var 3) (.lst [(false, (.tell 0 (.call 65 [(.var 0), (.var 1), (.var 2)]))), (false, (.tell 0 (.call 66 [(.var 0), (.var 1), (.var 2), (.cst .non)])))])))]⟩
def f__law_all_of : Fn := ⟨2, 3, [(.asg 2 (.lst [(false, (.tell 0 (.call 67 [(.var 0), (.var 1)]))), (false, (.tell 0 (.call 68 [(.var 0), (.var 1)]))), (false, (.tell 0 (.call 69 [(.var 0), (.var 1)])))])), (.frz 2), (.asg 2 (.bin .add (.var 2) (.lst [(false, (.tell 0 (.call 70 [(.var 0), (.var 1)]))), (false, (.tell 0 (.call 71 [(.var 0), (.var 1)])))]))), (.frz 2), (.ret (.bin .add (.var 2) (.lst [(false, (.tell 0 (.call 73 [(.var 0), (.var 1)]))), (false, (.tell 0 (.call 72 [(.var 0), (.var 1), (.cst (.int 0))])))])))]⟩
def f__law_right : Fn := ⟨2, 8, [(.asg 2 (.call 76 [(.var 0), (.lst [(false, (.cst .non)), (false, (.cst (.str (Str.ofString "land")))), (false, (.tup [(false, (.cst (.int 9))), (false, (.cst (.int 2))), (false, (.tup [])), (false, (.tup [])), (false, (.tup []))])), (false, (.cst (.int 7)))])])), (.frz 2), (.asg 3 (.call 76 [(.var 0), (.lst [(false, (.cst .non)), (false, (.lst [(false, (.tup [(false, (.cst (.str (Str.ofString "burnt")))), (false, (.cst (.int 0))), (false, (.cst (.int 1)))]))])), (false, (.tup [(false, (.tup [(false, (.cst (.str (Str.ofString "burnt")))), (false, (.cst (.int 0))), (false, (.cst (.int 1)))])), (false, (.tup [(false, (.cst (.str (Str.ofString "whole")))), (false, (.cst (.int 2))), (false, (.cst (.int 0)))]))])), (false, (.bin .mul (.tup [(false, (.tup [(false, (.cst (.str (Str.ofString "burnt")))), (false, (.cst (.int 0))), (false, (.cst (.int 1)))]))]) (.cst (.int 41))))])])), (.frz 3), (.asg 4 (.call 76 [(.var 0), (.lst [(false, (.cst .non)), (false, (.tup [(false, (.cst (.int 1))), (false, (.cst (.int 0)))])), (false, (.tup [(false, (.cst (.int 0))), (false, (.cst (.int 0)))])), (false, (.tup [(false, (.cst (.int 2)))])), (false, (.tup [(false, (.neg (.cst (.int 1))))])), (false, (.tup [(false, (.cst (.bl true)))])), (false, (.lst [(false, (.cst (.int 0)))])), (false, (.cst (.int 0))), (false, (.tup [(false, (.cst (.int 0))), (false, (.cst (.str (Str.ofString "1"))))]))])])), (.frz 4), (.asgT (.tup [(.nm 5), (.nm 6)]) (.tup [(false, (.tup [(false, (.tup [(false, (.cst (.str (Str.ofString "burnt")))), (false, (.cst (.int 0))), (false, (.cst (.int 1)))])), (false, (.tup [(false, (.cst (.str (Str.ofString "whole")))), (false, (.cst (.int 0))), (false, (.cst (.int 1)))]))])), (false, (.call 76 [(.var 0), (.lst [(false, (.neg (.cst (.int 1)))), (false, (.cst (.int 2))), (false, (.cst (.bl true))), (false, (.cst .non)), (false, (.cst (.str (Str.ofString "0"))))])]))])), (.asg 7 (.bin .add (.bin .add (.bin .add (.bin .add (.call 78 [(.var 2), (.var 3), (.var 4)]) (.call 79 [(.var 2), (.var 3)])) (.call 78 [(.var 1), (.var 3), (.var 4)])) (.call 79 [(.var 1), (.var 3)])) (.call 78 [(.var 1), (.var 5), (.var 4)]))), (.frz 7), (.ite (.cmp .ne (.var 7) (.bin .add (.bin .add (.bin .mul (.lst [(false, (.tup [(false, (.cst (.str (Str.ofString "land"))))]))]) (.cst (.int 15))) (.bin .mul (.lst [(false, (.tup [(false, (.cst (.str (Str.ofString "report"))))]))]) (.cst (.int 15)))) (.bin .mul (.lst [(false, (.tup [(false, (.cst (.str (Str.ofString "operation"))))]))]) (.cst (.int 8))))) [(.ret (.cst (.bl false)))] []), (.asg 7 (.lst [(false, (.tell 0 (.call 72 [(.var 1), (.var 5), (.var 6)]))), (false, (.tell 0 (.call 72 [(.var 1), (.bin .mul (.var 5) (.cst (.int 6))), (.cst (.int 12))]))), (false, (.tell 0 (.call 72 [(.var 1), (.bin .mul (.var 5) (.cst (.int 6))), (.cst (.int 11))])))])), (.frz 7), (.ret (.cmp .eq (.var 7) (.lst [(false, (.tup [(false, (.cst (.str (Str.ofString "number")))), (false, (.var 6))])), (false, (.tup [(false, (.cst (.str (Str.ofString "number")))), (false, (.cst (.int 12)))])), (false, (.tup [(false, (.cst (.str (Str.ofString "many")))), (false, (.cst (.int 10)))]))])))]⟩
def f_law : Fn := ⟨1, 7, [(.asg 1 (.call 82 [(.cst (.int 9)), (.cst (.int 2)), (.tup [(false, (.tup [(false, (.cst (.int 0))), (false, (.cst (.int 1))), (false, (.cst (.int 1))), (false, (.cst (.int 2))), (false, (.cst .non))]))]), (.tup [(false, (.tup [(false, (.cst (.int 2))), (false, (.cst (.int 6)))])), (false, (.tup [(false, (.cst (.int 1))), (false, (.cst (.int 1)))]))]), (.tup [(false, (.tup [(false, (.cst (.int 0))), (false, (.cst (.int 0))), (false, (.cst (.int 5)))]))])])), (.frz 1), (.for_ true 1 [(.b2 .max2 (.cst (.int 1)) (.b2 .min2 (.cst (.int 2)) (.b1 .len (.var 0))))] (.nm 2) [(.asg 3 (.call 74 [(.var 0), (.var 2)])), (.mv 3), (.ite (.cmp .ne (.comp 1 [(.cst (.int 2))] (.nm 4) [4] [(.notv (.call 80 [(.var 3), (.var 1)]))] (.cst (.int 1))) (.lst [])) [(.ret (.cst (.bl false)))] [])]), (.asg 5 (.bin .mul (.tup [(false, (.tup [(false, (.cst (.str (Str.ofString "burnt")))), (false, (.cst (.int 0))), (false, (.cst (.int 1)))])), (false, (.tup [(false, (.cst (.str (Str.ofString "whole")))), (false, (.cst (.int 0))), (false, (.cst (.int 1)))]))]) (.cst (.int 6)))), (.asg 6 (.bin .add (.bin .add (.sl (.call 79 [(.var 1), (.sl (.var 5) none (some (.cst (.int 11))))]) none (some (.cst (.int 6)))) (.call 78 [(.var 1), (.var 5), (.tup [(false, (.cst (.int 0))), (false, (.cst (.int 1))), (false, (.cst (.int 11)))])])) (.lst [(false, (.call 59 [(.var 1), (.var 5), (.lrg1 true (.cst (.int 12)))])), (false, (.gc 28))]))), (.frz 6), (.ret (.cmp .eq (.b1 .repr (.var 6)) (.b1 .repr (.bin .add (.bin .add (.bin .mul (.lst [(false, (.tup [(false, (.cst (.str (Str.ofString "many")))), (false, (.cst (.int 10)))]))]) (.cst (.int 6))) (.bin .mul (.lst [(false, (.tup [(false, (.cst (.str (Str.ofString "fine"))))]))]) (.cst (.int 8)))) (.lst [(false, (.cst (.bl false))), (false, (.cst (.int 10)))])))))]⟩
def t__law_met : Tl := ⟨[(1, (.tup [some (.str (Str.ofString "land"))])), (2, (.tup [some (.str (Str.ofString "history"))])), (3, (.tup [some (.str (Str.ofString "report"))])), (4, (.tup [some (.str (Str.ofString "operation"))])), (5, (.tup [some (.str (Str.ofString "number")), none])), (6, (.tup [some (.str (Str.ofString "many")), none])), (7, (.tup [some (.str (Str.ofString "refused")), none]))], (.tup [some (.str (Str.ofString "fine"))]), none⟩
def in_Land : In := ⟨Str.ofString "Land", 5, 6, [((.cmp .notN (.call 10 [(.var 1), (.var 2), (.var 3), (.var 4), (.var 5)]) (.cst .non)), 1)], [[(1, 1), (3, 2), (4, 3)], [(0, 4), (2, 5)]]⟩
def m_Land_parts : Fn := ⟨1, 1, [(.ret (.tup [(false, (.att (Str.ofString "Land") 1 (.var 0))), (false, (.att (Str.ofString "Land") 3 (.var 0))), (false, (.att (Str.ofString "Land") 4 (.var 0))), (false, (.att (Str.ofString "Land") 0 (.var 0))), (false, (.att (Str.ofString "Land") 2 (.var 0)))]))]⟩
def m_Bounds_told : Fn := ⟨1, 1, [(.ret (.tup [(false, (.b1 .tuple (.att (Str.ofString "Bounds") 0 (.var 0)))), (false, (.b1 .tuple (.att (Str.ofString "Bounds") 3 (.var 0))))]))]⟩
def m_Bounds_put : Fn := ⟨4, 4, [(.ite (.cmp .ne (.ix (.var 1) (.var 2)) (.var 3)) [(.setIx 1 (.var 2) (.var 3)), (.augAtt 0 (Str.ofString "Bounds") 1 .add (.cst (.int 1)))] [])]⟩
def m_Bounds_raise_caught : Fn := ⟨3, 3, [(.expr (.meth (Str.ofString "Bounds") 85 (.var 0) [(.att (Str.ofString "Bounds") 0 (.var 0)), (.var 1), (.call 3 [(.ix (.att (Str.ofString "Bounds") 0 (.var 0)) (.var 1)), (.call 4 [(.var 2), (.cst (.int 0)), (.att (Str.ofString "Land") 1 (.att (Str.ofString "Bounds") 2 (.var 0)))])])]))]⟩
def m_Bounds_raise_out : Fn := ⟨3, 3, [(.expr (.meth (Str.ofString "Bounds") 85 (.var 0) [(.att (Str.ofString "Bounds") 3 (.var 0)), (.var 1), (.call 3 [(.ix (.att (Str.ofString "Bounds") 3 (.var 0)) (.var 1)), (.var 2)])]))]⟩
def m_Bounds_cause : Fn := ⟨2, 14, [(.par [2, 3] [(.att (Str.ofString "Bounds") 2 (.var 0)), (.ix (.att (Str.ofString "Bounds") 0 (.var 0)) (.var 1))]), (.frz 2), (.ite (.cmp .isN (.var 3) (.cst .non)) [.retN] []), (.asg 4 (.cst .non)), (.for_ false 0 [(.att (Str.ofString "Land") 2 (.var 2))] (.tup [(.nm 5), (.nm 6), (.nm 7)]) [(.ite (.andv [(.cmp .eq (.var 5) (.var 1)), (.cmp .le (.b2 .max2 (.var 3) (.var 6)) (.var 7))]) [(.asg 4 (.call 2 [(.var 4), (.b2 .max2 (.var 3) (.var 6))])), (.frz 4)] [])]), (.for_ false 0 [(.att (Str.ofString "Land") 4 (.var 2))] (.tup [(.nm 8), (.nm 9), (.nm 10), (.nm 11), (.nm 12)]) [(.ite (.andv [(.cmp .eq (.var 9) (.var 1)), (.cmp .notN (.ix (.att (Str.ofString "Bounds") 0 (.var 0)) (.var 8)) (.cst .non))]) [(.asg 13 (.b2 .max2 (.var 3) (.bin .add (.ix (.att (Str.ofString "Bounds") 0 (.var 0)) (.var 8)) (.var 10)))), (.ite (.andv [(.cmp .le (.var 13) (.att (Str.ofString "Land") 1 (.var 2))), (.orv [(.cmp .isN (.var 12) (.cst .non)), (.cmp .lt (.var 13) (.var 12))])]) [(.asg 4 (.call 2 [(.var 4), (.var 13)])), (.frz 4)] [])] [])]), (.expr (.meth (Str.ofString "Bounds") 85 (.var 0) [(.att (Str.ofString "Bounds") 0 (.var 0)), (.var 1), (.var 4)]))]⟩
def m_Bounds_must : Fn := ⟨2, 11, [(.asg 2 (.att (Str.ofString "Bounds") 2 (.var 0))), (.frz 2), (.asgT (.tup [(.nm 3), (.nm 4), (.nm 5), (.nm 6), (.nm 7)]) (.ix (.att (Str.ofString "Land") 4 (.var 2)) (.var 1))), (.par [8, 9] [(.ix (.att (Str.ofString "Bounds") 0 (.var 0)) (.var 3)), (.ix (.att (Str.ofString "Bounds") 0 (.var 0)) (.var 4))]), (.asg 10 (.call 2 [(.call 2 [(.bin .add (.att (Str.ofString "Land") 1 (.var 2)) (.cst (.int 1))), (.var 7)]), (.var 9)])), (.frz 10), (.ite (.andv [(.cmp .notN (.var 8) (.cst .non)), (.cmp .lt (.bin .add (.var 8) (.var 6)) (.var 10))]) [(.expr (.meth (Str.ofString "Bounds") 86 (.var 0) [(.var 3), (.bin .sub (.var 10) (.var 6))]))] [])]⟩
def m_Bounds_burn : Fn := ⟨2, 4, [(.asg 2 (.ix (.att (Str.ofString "Bounds") 0 (.var 0)) (.var 1))), (.asg 3 (.ix (.ix (.att (Str.ofString "Land") 0 (.att (Str.ofString "Bounds") 2 (.var 0))) (.var 1)) (.cst (.int 0)))), (.expr (.meth (Str.ofString "Bounds") 87 (.var 0) [(.var 1), (.ife (.cmp .isN (.var 2) (.cst .non)) (.cst .non) (.bin .add (.var 2) (.var 3)))]))]⟩
def m_Bounds_back : Fn := ⟨2, 3, [(.asg 2 (.ix (.att (Str.ofString "Bounds") 3 (.var 0)) (.var 1))), (.ite (.cmp .isN (.var 2) (.cst .non)) [(.expr (.meth (Str.ofString "Bounds") 86 (.var 0) [(.var 1), (.cst .non)]))] [(.ite (.cmp .gt (.var 2) (.ix (.ix (.att (Str.ofString "Land") 0 (.att (Str.ofString "Bounds") 2 (.var 0))) (.var 1)) (.cst (.int 1)))) [(.expr (.meth (Str.ofString "Bounds") 86 (.var 0) [(.var 1), (.bin .sub (.var 2) (.ix (.ix (.att (Str.ofString "Land") 0 (.att (Str.ofString "Bounds") 2 (.var 0))) (.var 1)) (.cst (.int 1))))]))] [])])]⟩
def m_Bounds_are_behind : Fn := ⟨2, 4, [(.ret (.b1 .all (.comp 0 [(.var 1)] (.tup [(.nm 2), (.nm 3)]) [2, 3] [] (.orv [(.cmp .isN (.ix (.att (Str.ofString "Bounds") 0 (.var 0)) (.var 2)) (.cst .non)), (.cmp .gt (.ix (.att (Str.ofString "Bounds") 0 (.var 0)) (.var 2)) (.var 3))]))))]⟩
def m_Bounds_report : Fn := ⟨2, 4, [(.unpS 2 3 (.ix (.att (Str.ofString "Bounds") 4 (.var 0)) (.var 1))), (.frz 3), (.ite (.orv [(.cmp .eq (.var 2) (.cst (.str (Str.ofString "whole")))), (.andv [(.cmp .eq (.var 2) (.cst (.str (Str.ofString "unless")))), (.meth (Str.ofString "Bounds") 92 (.var 0) [(.ix (.var 3) (.cst (.int 2)))])])]) [(.expr (.meth (Str.ofString "Bounds") 86 (.var 0) [(.ix (.var 3) (.cst (.int 0))), (.bin .add (.ix (.var 3) (.cst (.int 1))) (.cst (.int 1)))]))] [(.ite (.cmp .eq (.var 2) (.cst (.str (Str.ofString "still")))) [(.expr (.meth (Str.ofString "Bounds") 87 (.var 0) [(.ix (.var 3) (.cst (.int 0))), (.bin .add (.ix (.var 3) (.cst (.int 1))) (.cst (.int 1)))]))] [(.ite (.cmp .in_ (.var 2) (.tup [(false, (.cst (.str (Str.ofString "ahead")))), (false, (.cst (.str (Str.ofString "behind"))))])) [.never] [])])])]⟩
def m_Bounds_two : Fn := ⟨5, 6, [(.ite (.cmp .eq (.var 1) (.cst (.str (Str.ofString "ahead")))) [(.asg 5 (.ix (.att (Str.ofString "Bounds") 0 (.var 0)) (.var 2))), (.ite (.orv [(.cmp .isN (.var 5) (.cst .non)), (.cmp .gt (.bin .sub (.var 5) (.var 4)) (.cst (.int 0)))]) [(.expr (.meth (Str.ofString "Bounds") 86 (.var 0) [(.var 3), (.ife (.cmp .isN (.var 5) (.cst .non)) (.cst .non) (.bin .sub (.var 5) (.var 4)))]))] [])] [(.ite (.andv [(.cmp .notN (.ix (.att (Str.ofString "Bounds") 0 (.var 0)) (.var 3)) (.cst .non)), (.cmp .gt (.bin .add (.ix (.att (Str.ofString "Bounds") 0 (.var 0)) (.var 3)) (.var 4)) (.cst (.int 0)))]) [(.expr (.meth (Str.ofString "Bounds") 86 (.var 0) [(.var 2), (.bin .add (.ix (.att (Str.ofString "Bounds") 0 (.var 0)) (.var 3)) (.var 4))]))] [])])]⟩
def m_Bounds_apply : Fn := ⟨2, 4, [(.asgT (.tup [(.nm 2), (.nm 3)]) (.var 1)), (.ite (.cmp .eq (.var 2) (.gc 22)) [(.expr (.meth (Str.ofString "Bounds") 88 (.var 0) [(.var 3)]))] [(.ite (.cmp .eq (.var 2) (.gc 23)) [(.expr (.meth (Str.ofString "Bounds") 89 (.var 0) [(.var 3)]))] [(.ite (.cmp .eq (.var 2) (.gc 24)) [(.expr (.meth (Str.ofString "Bounds") 90 (.var 0) [(.var 3)]))] [(.ite (.cmp .eq (.var 2) (.gc 25)) [(.expr (.meth (Str.ofString "Bounds") 91 (.var 0) [(.var 3)]))] [(.expr (.meth (Str.ofString "Bounds") 93 (.var 0) [(.var 3)]))])])])])]⟩
def m_Bounds_is_broken : Fn := ⟨2, 4, [(.asg 2 (.ix (.att (Str.ofString "Bounds") 4 (.var 0)) (.var 1))), (.asg 3 (.ix (.var 2) (.cst (.int 0)))), (.ite (.cmp .eq (.var 3) (.cst (.str (Str.ofString "burnt")))) [(.ret (.meth (Str.ofString "Bounds") 92 (.var 0) [(.tup [(false, (.sl (.var 2) (some (.cst (.int 1))) none))])]))] []), (.ite (.cmp .eq (.var 3) (.cst (.str (Str.ofString "out")))) [(.ret (.orv [(.cmp .isN (.ix (.att (Str.ofString "Bounds") 3 (.var 0)) (.ix (.var 2) (.cst (.int 1)))) (.cst .non)), (.cmp .gt (.ix (.att (Str.ofString "Bounds") 3 (.var 0)) (.ix (.var 2) (.cst (.int 1)))) (.ix (.var 2) (.cst (.int 2))))]))] []), (.ite (.cmp .eq (.var 3) (.cst (.str (Str.ofString "behind")))) [(.ret (.cmp .isN (.ix (.att (Str.ofString "Bounds") 0 (.var 0)) (.ix (.var 2) (.cst (.int 2)))) (.cst .non)))] []), (.ret (.andv [(.cmp .eq (.var 3) (.cst (.str (Str.ofString "some")))), (.meth (Str.ofString "Bounds") 92 (.var 0) [(.ix (.var 2) (.cst (.int 1)))])]))]⟩
def ob_Bounds : Ob := ⟨Str.ofString "Bounds", 2, 3, [(2, (.var 1)), (4, (.var 2)), (1, (.cst (.int 0))), (0, (.bin .mul (.lst [(false, (.cst (.int 0)))]) (.att (Str.ofString "Land") 3 (.var 1)))), (3, (.bin .mul (.lst [(false, (.cst (.int 0)))]) (.att (Str.ofString "Land") 3 (.var 1))))]⟩
def sb : Nat → Nat → Bool
  | 0, 0 => true
  | 1, 1 => true
  | 1, 0 => true
  | 2, 2 => true
  | 2, 0 => true
  | 3, 3 => true
  | 3, 0 => true
  | 4, 4 => true
  | 4, 0 => true
  | 5, 5 => true
  | 6, 6 => true
  | 7, 7 => true
  | _, _ => false
def md : Md := ⟨[c_MAX_HORIZON, c_GREAT, c_MAX_CELLS, c_MAX_WAYS, c_MAX_ORIGINS, c_MAX_BURN, c_BURN_histories, c_CAUSE_histories, c_MUST_histories, c_MAX_REPORTS, c_MAX_PAIRS, c_MAX_LAG, c_AHEAD, c_BEHIND, c_BURNT, c_OUT, c_SOME, c_STILL, c_UNLESS, c_WHOLE, c_AT_AN_HOUR, c_OF_TWO, c_CAUSE_earliest, c_MUST_earliest, c_BURN_earliest, c_BACK, c_REPORT, c_END, c_MOST_LIES, c_FITS, c_ROW], [f_is_whole, f_is_within, f_before, f_behind, f_moved, f_goes_ahead, f_is_row_of, f_is_burn, f_is_way, f_is_origin, f_land_fault, f_require_land, f_is_cell_of, f_is_hour_of, f_is_caught_row, f_is_out_row, f_is_draft_of, f_is_burn_kept, f_can_come_by, f_is_caused, f_due_hour, f_is_must_kept, f_faults_in, f_is_fitting_in, f_is_pair_of, f_are_pairs_of, f_is_report_of, f_are_reports_of, f_is_by, f_is_some_burnt, f_do_two_hold, f_does_hold_in, f_do_hold_in, f_require_reports, f_rules_of, f_ended, f_least_in, f_row_in, f_is_rule_of, f_are_rules_of, f_led_by, f_is_row_in, f_of_lot, f_is_true_lot, f_struck, f_others_of, f_is_some_lie, f_is_some_truth, f_all_lots, f_are_within, f_lies_in, f_truths_of, f_left_out, f_most_apart, f_require_told, f_is_lot_of, f_require_lot, f_require_few, f_known_lies, f_can_be_true, f_true_paper, f_is_true_paper, f_lie_within, f_is_lie, f_is_truth, f_lie_paper, f_is_lie_paper, f_all_lies, f_all_truths, f_suspects, f_guilty, f_fewest_false, f_truth_with, f_apart_lies, f__law_bag, f__law_draw, f__law_one_of, f__law_mixed, f__law_lots, f__law_all_of, f__law_right, f_law], sb, [t__law_met], [in_Land], [m_Land_parts, m_Bounds_told, m_Bounds_put, m_Bounds_raise_caught, m_Bounds_raise_out, m_Bounds_cause, m_Bounds_must, m_Bounds_burn, m_Bounds_back, m_Bounds_are_behind, m_Bounds_report, m_Bounds_two, m_Bounds_apply, m_Bounds_is_broken], [ob_Bounds], []⟩
end Law
namespace Law
open Zw PySem PySem.Spec PyProof.Rows L2
def top (i : Nat) : Stmt := PySem.Challenge.pw_leastburn_k48_errors_of_lies.main.body.getD i (.Pass ⟨0, 0, 0, 0⟩)
def n_is_whole : List Str := [Str.ofString "value"]
def i_is_whole : FnI := ⟨Str.ofString "is_whole", top 12, n_is_whole, f_is_whole⟩
def n_is_within : List Str := [Str.ofString "value", Str.ofString "low", Str.ofString "high"]
def i_is_within : FnI := ⟨Str.ofString "is_within", top 13, n_is_within, f_is_within⟩
def n_before : List Str := [Str.ofString "one", Str.ofString "other"]
def i_before : FnI := ⟨Str.ofString "before", top 14, n_before, f_before⟩
def n_behind : List Str := [Str.ofString "one", Str.ofString "other"]
def i_behind : FnI := ⟨Str.ofString "behind", top 15, n_behind, f_behind⟩
def n_moved : List Str := [Str.ofString "entry", Str.ofString "many", Str.ofString "horizon"]
def i_moved : FnI := ⟨Str.ofString "moved", top 16, n_moved, f_moved⟩
def n_goes_ahead : List Str := [Str.ofString "one", Str.ofString "other", Str.ofString "many"]
def i_goes_ahead : FnI := ⟨Str.ofString "goes_ahead", top 17, n_goes_ahead, f_goes_ahead⟩
def n_is_row_of : List Str := [Str.ofString "value", Str.ofString "many"]
def i_is_row_of : FnI := ⟨Str.ofString "is_row_of", top 23, n_is_row_of, f_is_row_of⟩
def n_is_burn : List Str := [Str.ofString "value"]
def i_is_burn : FnI := ⟨Str.ofString "is_burn", top 24, n_is_burn, f_is_burn⟩
def n_is_way : List Str := [Str.ofString "horizon", Str.ofString "cells", Str.ofString "burns", Str.ofString "value", Str.ofString "one", Str.ofString "least", Str.ofString "most", Str.ofString "close"]
def i_is_way : FnI := ⟨Str.ofString "is_way", top 25, n_is_way, f_is_way⟩
def n_is_origin : List Str := [Str.ofString "horizon", Str.ofString "cells", Str.ofString "value"]
def i_is_origin : FnI := ⟨Str.ofString "is_origin", top 26, n_is_origin, f_is_origin⟩
def n_land_fault : List Str := [Str.ofString "horizon", Str.ofString "cells", Str.ofString "ways", Str.ofString "burns", Str.ofString "origins", Str.ofString "at"]
def i_land_fault : FnI := ⟨Str.ofString "land_fault", top 28, n_land_fault, f_land_fault⟩
def n_require_land : List Str := [Str.ofString "land"]
def i_require_land : FnI := ⟨Str.ofString "require_land", top 30, n_require_land, f_require_land⟩
def n_is_cell_of : List Str := [Str.ofString "land", Str.ofString "value"]
def i_is_cell_of : FnI := ⟨Str.ofString "is_cell_of", top 31, n_is_cell_of, f_is_cell_of⟩
def n_is_hour_of : List Str := [Str.ofString "land", Str.ofString "value"]
def i_is_hour_of : FnI := ⟨Str.ofString "is_hour_of", top 32, n_is_hour_of, f_is_hour_of⟩
def n_is_caught_row : List Str := [Str.ofString "land", Str.ofString "value", Str.ofString "entry"]
def i_is_caught_row : FnI := ⟨Str.ofString "is_caught_row", top 37, n_is_caught_row, f_is_caught_row⟩
def n_is_out_row : List Str := [Str.ofString "land", Str.ofString "value", Str.ofString "entry"]
def i_is_out_row : FnI := ⟨Str.ofString "is_out_row", top 38, n_is_out_row, f_is_out_row⟩
def n_is_draft_of : List Str := [Str.ofString "land", Str.ofString "value"]
def i_is_draft_of : FnI := ⟨Str.ofString "is_draft_of", top 39, n_is_draft_of, f_is_draft_of⟩
def n_is_burn_kept : List Str := [Str.ofString "land", Str.ofString "draft", Str.ofString "cell", Str.ofString "caught", Str.ofString "out", Str.ofString "short", Str.ofString "long"]
def i_is_burn_kept : FnI := ⟨Str.ofString "is_burn_kept", top 40, n_is_burn_kept, f_is_burn_kept⟩
def n_can_come_by : List Str := [Str.ofString "way", Str.ofString "hours", Str.ofString "hour", Str.ofString "start", Str.ofString "goal", Str.ofString "least", Str.ofString "most", Str.ofString "close"]
def i_can_come_by : FnI := ⟨Str.ofString "can_come_by", top 41, n_can_come_by, f_can_come_by⟩
def n_is_caused : List Str := [Str.ofString "land", Str.ofString "hours", Str.ofString "cell", Str.ofString "hour", Str.ofString "place", Str.ofString "first", Str.ofString "last", Str.ofString "way"]
def i_is_caused : FnI := ⟨Str.ofString "is_caused", top 42, n_is_caused, f_is_caused⟩
def n_due_hour : List Str := [Str.ofString "land", Str.ofString "hours", Str.ofString "index", Str.ofString "start", Str.ofString "goal", Str.ofString "least", Str.ofString "most", Str.ofString "close", Str.ofString "due"]
def i_due_hour : FnI := ⟨Str.ofString "due_hour", top 43, n_due_hour, f_due_hour⟩
def n_is_must_kept : List Str := [Str.ofString "land", Str.ofString "hours", Str.ofString "index", Str.ofString "due", Str.ofString "there"]
def i_is_must_kept : FnI := ⟨Str.ofString "is_must_kept", top 44, n_is_must_kept, f_is_must_kept⟩
def n_faults_in : List Str := [Str.ofString "land", Str.ofString "draft", Str.ofString "found", Str.ofString "cell", Str.ofString "at"]
def i_faults_in : FnI := ⟨Str.ofString "faults_in", top 45, n_faults_in, f_faults_in⟩
def n_is_fitting_in : List Str := [Str.ofString "land", Str.ofString "value"]
def i_is_fitting_in : FnI := ⟨Str.ofString "is_fitting_in", top 46, n_is_fitting_in, f_is_fitting_in⟩
def n_is_pair_of : List Str := [Str.ofString "land", Str.ofString "value"]
def i_is_pair_of : FnI := ⟨Str.ofString "is_pair_of", top 61, n_is_pair_of, f_is_pair_of⟩
def n_are_pairs_of : List Str := [Str.ofString "land", Str.ofString "value", Str.ofString "one", Str.ofString "other"]
def i_are_pairs_of : FnI := ⟨Str.ofString "are_pairs_of", top 62, n_are_pairs_of, f_are_pairs_of⟩
def n_is_report_of : List Str := [Str.ofString "land", Str.ofString "value", Str.ofString "word", Str.ofString "rest"]
def i_is_report_of : FnI := ⟨Str.ofString "is_report_of", top 63, n_is_report_of, f_is_report_of⟩
def n_are_reports_of : List Str := [Str.ofString "land", Str.ofString "value", Str.ofString "one"]
def i_are_reports_of : FnI := ⟨Str.ofString "are_reports_of", top 64, n_are_reports_of, f_are_reports_of⟩
def n_is_by : List Str := [Str.ofString "entry", Str.ofString "hour"]
def i_is_by : FnI := ⟨Str.ofString "is_by", top 65, n_is_by, f_is_by⟩
def n_is_some_burnt : List Str := [Str.ofString "draft", Str.ofString "pairs", Str.ofString "cell", Str.ofString "hour"]
def i_is_some_burnt : FnI := ⟨Str.ofString "is_some_burnt", top 66, n_is_some_burnt, f_is_some_burnt⟩
def n_do_two_hold : List Str := [Str.ofString "draft", Str.ofString "word", Str.ofString "one", Str.ofString "other", Str.ofString "many", Str.ofString "here", Str.ofString "there"]
def i_do_two_hold : FnI := ⟨Str.ofString "do_two_hold", top 67, n_do_two_hold, f_do_two_hold⟩
def n_does_hold_in : List Str := [Str.ofString "draft", Str.ofString "report", Str.ofString "word", Str.ofString "rest"]
def i_does_hold_in : FnI := ⟨Str.ofString "does_hold_in", top 68, n_does_hold_in, f_does_hold_in⟩
def n_do_hold_in : List Str := [Str.ofString "draft", Str.ofString "reports", Str.ofString "report"]
def i_do_hold_in : FnI := ⟨Str.ofString "do_hold_in", top 69, n_do_hold_in, f_do_hold_in⟩
def n_require_reports : List Str := [Str.ofString "land", Str.ofString "value"]
def i_require_reports : FnI := ⟨Str.ofString "require_reports", top 70, n_require_reports, f_require_reports⟩
def n_rules_of : List Str := [Str.ofString "land", Str.ofString "reports", Str.ofString "cells", Str.ofString "found", Str.ofString "index", Str.ofString "cell"]
def i_rules_of : FnI := ⟨Str.ofString "rules_of", top 79, n_rules_of, f_rules_of⟩
def n_ended : List Str := [Str.ofString "land", Str.ofString "reports", Str.ofString "bounds", Str.ofString "rules", Str.ofString "done", Str.ofString "is_done", Str.ofString "rule", Str.ofString "ahead", Str.ofString "index"]
def i_ended : FnI := ⟨Str.ofString "ended", top 80, n_ended, f_ended⟩
def n_least_in : List Str := [Str.ofString "land", Str.ofString "reports", Str.ofString "bounds", Str.ofString "rules", Str.ofString "index"]
def i_least_in : FnI := ⟨Str.ofString "least_in", top 81, n_least_in, f_least_in⟩
def n_row_in : List Str := [Str.ofString "land", Str.ofString "reports", Str.ofString "bounds", Str.ofString "rules", Str.ofString "index"]
def i_row_in : FnI := ⟨Str.ofString "row_in", top 82, n_row_in, f_row_in⟩
def n_is_rule_of : List Str := [Str.ofString "land", Str.ofString "reports", Str.ofString "value", Str.ofString "size", Str.ofString "limits"]
def i_is_rule_of : FnI := ⟨Str.ofString "is_rule_of", top 83, n_is_rule_of, f_is_rule_of⟩
def n_are_rules_of : List Str := [Str.ofString "land", Str.ofString "reports", Str.ofString "value", Str.ofString "one"]
def i_are_rules_of : FnI := ⟨Str.ofString "are_rules_of", top 84, n_are_rules_of, f_are_rules_of⟩
def n_led_by : List Str := [Str.ofString "land", Str.ofString "reports", Str.ofString "rules", Str.ofString "bounds", Str.ofString "rule"]
def i_led_by : FnI := ⟨Str.ofString "led_by", top 85, n_led_by, f_led_by⟩
def n_is_row_in : List Str := [Str.ofString "land", Str.ofString "reports", Str.ofString "value", Str.ofString "last"]
def i_is_row_in : FnI := ⟨Str.ofString "is_row_in", top 86, n_is_row_in, f_is_row_in⟩
def n_of_lot : List Str := [Str.ofString "reports", Str.ofString "lot", Str.ofString "index"]
def i_of_lot : FnI := ⟨Str.ofString "of_lot", top 91, n_of_lot, f_of_lot⟩
def n_is_true_lot : List Str := [Str.ofString "land", Str.ofString "reports", Str.ofString "lot"]
def i_is_true_lot : FnI := ⟨Str.ofString "is_true_lot", top 92, n_is_true_lot, f_is_true_lot⟩
def n_struck : List Str := [Str.ofString "land", Str.ofString "reports", Str.ofString "lot", Str.ofString "left", Str.ofString "index", Str.ofString "others", Str.ofString "one"]
def i_struck : FnI := ⟨Str.ofString "struck", top 93, n_struck, f_struck⟩
def n_others_of : List Str := [Str.ofString "lot", Str.ofString "index", Str.ofString "one"]
def i_others_of : FnI := ⟨Str.ofString "others_of", top 94, n_others_of, f_others_of⟩
def n_is_some_lie : List Str := [Str.ofString "land", Str.ofString "reports", Str.ofString "lot", Str.ofString "index"]
def i_is_some_lie : FnI := ⟨Str.ofString "is_some_lie", top 95, n_is_some_lie, f_is_some_lie⟩
def n_is_some_truth : List Str := [Str.ofString "land", Str.ofString "reports", Str.ofString "lot", Str.ofString "rest", Str.ofString "index"]
def i_is_some_truth : FnI := ⟨Str.ofString "is_some_truth", top 96, n_is_some_truth, f_is_some_truth⟩
def n_all_lots : List Str := [Str.ofString "many", Str.ofString "found", Str.ofString "index", Str.ofString "lot"]
def i_all_lots : FnI := ⟨Str.ofString "all_lots", top 97, n_all_lots, f_all_lots⟩
def n_are_within : List Str := [Str.ofString "one", Str.ofString "other", Str.ofString "index"]
def i_are_within : FnI := ⟨Str.ofString "are_within", top 98, n_are_within, f_are_within⟩
def n_lies_in : List Str := [Str.ofString "land", Str.ofString "reports", Str.ofString "found", Str.ofString "lot", Str.ofString "one"]
def i_lies_in : FnI := ⟨Str.ofString "lies_in", top 99, n_lies_in, f_lies_in⟩
def n_truths_of : List Str := [Str.ofString "lies", Str.ofString "many", Str.ofString "found", Str.ofString "lot", Str.ofString "lie", Str.ofString "one"]
def i_truths_of : FnI := ⟨Str.ofString "truths_of", top 100, n_truths_of, f_truths_of⟩
def n_left_out : List Str := [Str.ofString "lot", Str.ofString "many", Str.ofString "index"]
def i_left_out : FnI := ⟨Str.ofString "left_out", top 101, n_left_out, f_left_out⟩
def n_most_apart : List Str := [Str.ofString "lies", Str.ofString "first", Str.ofString "rest", Str.ofString "apart", Str.ofString "lie", Str.ofString "index"]
def i_most_apart : FnI := ⟨Str.ofString "most_apart", top 102, n_most_apart, f_most_apart⟩
def n_require_told : List Str := [Str.ofString "land", Str.ofString "reports"]
def i_require_told : FnI := ⟨Str.ofString "require_told", top 103, n_require_told, f_require_told⟩
def n_is_lot_of : List Str := [Str.ofString "reports", Str.ofString "value", Str.ofString "one", Str.ofString "other"]
def i_is_lot_of : FnI := ⟨Str.ofString "is_lot_of", top 104, n_is_lot_of, f_is_lot_of⟩
def n_require_lot : List Str := [Str.ofString "land", Str.ofString "reports", Str.ofString "lot"]
def i_require_lot : FnI := ⟨Str.ofString "require_lot", top 105, n_require_lot, f_require_lot⟩
def n_require_few : List Str := [Str.ofString "reports"]
def i_require_few : FnI := ⟨Str.ofString "require_few", top 106, n_require_few, f_require_few⟩
def n_known_lies : List Str := [Str.ofString "land", Str.ofString "reports"]
def i_known_lies : FnI := ⟨Str.ofString "known_lies", top 107, n_known_lies, f_known_lies⟩
def n_can_be_true : List Str := [Str.ofString "land", Str.ofString "reports", Str.ofString "lot"]
def i_can_be_true : FnI := ⟨Str.ofString "can_be_true", top 108, n_can_be_true, f_can_be_true⟩
def n_true_paper : List Str := [Str.ofString "land", Str.ofString "reports", Str.ofString "lot", Str.ofString "some", Str.ofString "found"]
def i_true_paper : FnI := ⟨Str.ofString "true_paper", top 109, n_true_paper, f_true_paper⟩
def n_is_true_paper : List Str := [Str.ofString "land", Str.ofString "reports", Str.ofString "lot", Str.ofString "value", Str.ofString "some"]
def i_is_true_paper : FnI := ⟨Str.ofString "is_true_paper", top 110, n_is_true_paper, f_is_true_paper⟩
def n_lie_within : List Str := [Str.ofString "land", Str.ofString "reports", Str.ofString "lot"]
def i_lie_within : FnI := ⟨Str.ofString "lie_within", top 111, n_lie_within, f_lie_within⟩
def n_is_lie : List Str := [Str.ofString "land", Str.ofString "reports", Str.ofString "lot"]
def i_is_lie : FnI := ⟨Str.ofString "is_lie", top 112, n_is_lie, f_is_lie⟩
def n_is_truth : List Str := [Str.ofString "land", Str.ofString "reports", Str.ofString "lot"]
def i_is_truth : FnI := ⟨Str.ofString "is_truth", top 113, n_is_truth, f_is_truth⟩
def n_lie_paper : List Str := [Str.ofString "land", Str.ofString "reports", Str.ofString "lot", Str.ofString "histories", Str.ofString "index"]
def i_lie_paper : FnI := ⟨Str.ofString "lie_paper", top 114, n_lie_paper, f_lie_paper⟩
def n_is_lie_paper : List Str := [Str.ofString "land", Str.ofString "reports", Str.ofString "lot", Str.ofString "value", Str.ofString "index", Str.ofString "history"]
def i_is_lie_paper : FnI := ⟨Str.ofString "is_lie_paper", top 115, n_is_lie_paper, f_is_lie_paper⟩
def n_all_lies : List Str := [Str.ofString "land", Str.ofString "reports"]
def i_all_lies : FnI := ⟨Str.ofString "all_lies", top 116, n_all_lies, f_all_lies⟩
def n_all_truths : List Str := [Str.ofString "land", Str.ofString "reports"]
def i_all_truths : FnI := ⟨Str.ofString "all_truths", top 117, n_all_truths, f_all_truths⟩
def n_suspects : List Str := [Str.ofString "land", Str.ofString "reports", Str.ofString "lies", Str.ofString "index", Str.ofString "lie"]
def i_suspects : FnI := ⟨Str.ofString "suspects", top 118, n_suspects, f_suspects⟩
def n_guilty : List Str := [Str.ofString "land", Str.ofString "reports", Str.ofString "lies", Str.ofString "index", Str.ofString "lie"]
def i_guilty : FnI := ⟨Str.ofString "guilty", top 119, n_guilty, f_guilty⟩
def n_fewest_false : List Str := [Str.ofString "land", Str.ofString "reports", Str.ofString "truths", Str.ofString "found", Str.ofString "lot", Str.ofString "least"]
def i_fewest_false : FnI := ⟨Str.ofString "fewest_false", top 120, n_fewest_false, f_fewest_false⟩
def n_truth_with : List Str := [Str.ofString "land", Str.ofString "reports", Str.ofString "index", Str.ofString "truths", Str.ofString "lot"]
def i_truth_with : FnI := ⟨Str.ofString "truth_with", top 121, n_truth_with, f_truth_with⟩
def n_apart_lies : List Str := [Str.ofString "land", Str.ofString "reports"]
def i_apart_lies : FnI := ⟨Str.ofString "apart_lies", top 122, n_apart_lies, f_apart_lies⟩
def n__law_bag : List Str := [Str.ofString "script", Str.ofString "spot", Str.ofString "cell", Str.ofString "great"]
def i__law_bag : FnI := ⟨Str.ofString "_law_bag", top 124, n__law_bag, f__law_bag⟩
def n__law_draw : List Str := [Str.ofString "bag", Str.ofString "total", Str.ofString "found", Str.ofString "one", Str.ofString "two"]
def i__law_draw : FnI := ⟨Str.ofString "_law_draw", top 125, n__law_draw, f__law_draw⟩
def n__law_one_of : List Str := [Str.ofString "bag", Str.ofString "items"]
def i__law_one_of : FnI := ⟨Str.ofString "_law_one_of", top 126, n__law_one_of, f__law_one_of⟩
def n__law_mixed : List Str := [Str.ofString "bag", Str.ofString "items", Str.ofString "found", Str.ofString "at", Str.ofString "other"]
def i__law_mixed : FnI := ⟨Str.ofString "_law_mixed", top 127, n__law_mixed, f__law_mixed⟩
def n__law_lots : List Str := [Str.ofString "land", Str.ofString "reports", Str.ofString "lot", Str.ofString "told"]
def i__law_lots : FnI := ⟨Str.ofString "_law_lots", top 129, n__law_lots, f__law_lots⟩
def n__law_all_of : List Str := [Str.ofString "land", Str.ofString "reports", Str.ofString "told"]
def i__law_all_of : FnI := ⟨Str.ofString "_law_all_of", top 130, n__law_all_of, f__law_all_of⟩
def n__law_right : List Str := [Str.ofString "bag", Str.ofString "land", Str.ofString "other", Str.ofString "some", Str.ofString "lot", Str.ofString "fine", Str.ofString "wrong", Str.ofString "told"]
def i__law_right : FnI := ⟨Str.ofString "_law_right", top 131, n__law_right, f__law_right⟩
def n_law : List Str := [Str.ofString "script", Str.ofString "land", Str.ofString "at", Str.ofString "bag", Str.ofString "turn", Str.ofString "many", Str.ofString "told"]
def i_law : FnI := ⟨Str.ofString "law", top 132, n_law, f_law⟩
def i__law_met : TlI := ⟨Str.ofString "_law_met", top 128, t__law_met⟩
def i_first_odd : OdI := ⟨Str.ofString "first_odd", top 27⟩
def n_Land : List Str := [Str.ofString "self", Str.ofString "horizon", Str.ofString "cells", Str.ofString "ways", Str.ofString "burns", Str.ofString "origins"]
def fs_Land : List Str := [Str.ofString "own_burns", Str.ofString "own_horizon", Str.ofString "own_origins", Str.ofString "own_size", Str.ofString "own_ways"]
def i_Land : InI := ⟨Str.ofString "Land", (clsBody (top 29)).getD 1 (.Pass ⟨0, 0, 0, 0⟩), n_Land, fs_Land, in_Land⟩
def n_Bounds : List Str := [Str.ofString "self", Str.ofString "land", Str.ofString "reports"]
def fs_Bounds : List Str := [Str.ofString "own_caught", Str.ofString "own_changes", Str.ofString "own_land", Str.ofString "own_out", Str.ofString "own_reports"]
def i_Bounds : ObI := ⟨Str.ofString "Bounds", (clsBody (top 78)).getD 1 (.Pass ⟨0, 0, 0, 0⟩), n_Bounds, fs_Bounds, ob_Bounds⟩
def n_Land_parts : List Str := [Str.ofString "self"]
def i_Land_parts : MtI := ⟨Str.ofString "Land", Str.ofString "parts", ⟨Str.ofString "Land.parts", (clsBody (top 29)).getD 7 (.Pass ⟨0, 0, 0, 0⟩), n_Land_parts, m_Land_parts⟩⟩
def n_Bounds_told : List Str := [Str.ofString "self"]
def i_Bounds_told : MtI := ⟨Str.ofString "Bounds", Str.ofString "told", ⟨Str.ofString "Bounds.told", (clsBody (top 78)).getD 2 (.Pass ⟨0, 0, 0, 0⟩), n_Bounds_told, m_Bounds_told⟩⟩
def n_Bounds_put : List Str := [Str.ofString "self", Str.ofString "row", Str.ofString "cell", Str.ofString "entry"]
def i_Bounds_put : MtI := ⟨Str.ofString "Bounds", Str.ofString "put", ⟨Str.ofString "Bounds.put", (clsBody (top 78)).getD 3 (.Pass ⟨0, 0, 0, 0⟩), n_Bounds_put, m_Bounds_put⟩⟩
def n_Bounds_raise_caught : List Str := [Str.ofString "self", Str.ofString "cell", Str.ofString "entry"]
def i_Bounds_raise_caught : MtI := ⟨Str.ofString "Bounds", Str.ofString "raise_caught", ⟨Str.ofString "Bounds.raise_caught", (clsBody (top 78)).getD 4 (.Pass ⟨0, 0, 0, 0⟩), n_Bounds_raise_caught, m_Bounds_raise_caught⟩⟩
def n_Bounds_raise_out : List Str := [Str.ofString "self", Str.ofString "cell", Str.ofString "entry"]
def i_Bounds_raise_out : MtI := ⟨Str.ofString "Bounds", Str.ofString "raise_out", ⟨Str.ofString "Bounds.raise_out", (clsBody (top 78)).getD 5 (.Pass ⟨0, 0, 0, 0⟩), n_Bounds_raise_out, m_Bounds_raise_out⟩⟩
def n_Bounds_cause : List Str := [Str.ofString "self", Str.ofString "cell", Str.ofString "land", Str.ofString "here", Str.ofString "found", Str.ofString "place", Str.ofString "first", Str.ofString "last", Str.ofString "start", Str.ofString "goal", Str.ofString "least", Str.ofString "most", Str.ofString "close", Str.ofString "hour"]
def i_Bounds_cause : MtI := ⟨Str.ofString "Bounds", Str.ofString "cause", ⟨Str.ofString "Bounds.cause", (clsBody (top 78)).getD 6 (.Pass ⟨0, 0, 0, 0⟩), n_Bounds_cause, m_Bounds_cause⟩⟩
def n_Bounds_must : List Str := [Str.ofString "self", Str.ofString "index", Str.ofString "land", Str.ofString "start", Str.ofString "goal", Str.ofString "least", Str.ofString "most", Str.ofString "close", Str.ofString "here", Str.ofString "there", Str.ofString "end"]
def i_Bounds_must : MtI := ⟨Str.ofString "Bounds", Str.ofString "must", ⟨Str.ofString "Bounds.must", (clsBody (top 78)).getD 7 (.Pass ⟨0, 0, 0, 0⟩), n_Bounds_must, m_Bounds_must⟩⟩
def n_Bounds_burn : List Str := [Str.ofString "self", Str.ofString "cell", Str.ofString "here", Str.ofString "short"]
def i_Bounds_burn : MtI := ⟨Str.ofString "Bounds", Str.ofString "burn", ⟨Str.ofString "Bounds.burn", (clsBody (top 78)).getD 8 (.Pass ⟨0, 0, 0, 0⟩), n_Bounds_burn, m_Bounds_burn⟩⟩
def n_Bounds_back : List Str := [Str.ofString "self", Str.ofString "cell", Str.ofString "out"]
def i_Bounds_back : MtI := ⟨Str.ofString "Bounds", Str.ofString "back", ⟨Str.ofString "Bounds.back", (clsBody (top 78)).getD 9 (.Pass ⟨0, 0, 0, 0⟩), n_Bounds_back, m_Bounds_back⟩⟩
def n_Bounds_are_behind : List Str := [Str.ofString "self", Str.ofString "pairs", Str.ofString "cell", Str.ofString "hour"]
def i_Bounds_are_behind : MtI := ⟨Str.ofString "Bounds", Str.ofString "are_behind", ⟨Str.ofString "Bounds.are_behind", (clsBody (top 78)).getD 10 (.Pass ⟨0, 0, 0, 0⟩), n_Bounds_are_behind, m_Bounds_are_behind⟩⟩
def n_Bounds_report : List Str := [Str.ofString "self", Str.ofString "index", Str.ofString "word", Str.ofString "rest"]
def i_Bounds_report : MtI := ⟨Str.ofString "Bounds", Str.ofString "report", ⟨Str.ofString "Bounds.report", (clsBody (top 78)).getD 11 (.Pass ⟨0, 0, 0, 0⟩), n_Bounds_report, m_Bounds_report⟩⟩
def n_Bounds_two : List Str := [Str.ofString "self", Str.ofString "word", Str.ofString "one", Str.ofString "other", Str.ofString "many", Str.ofString "here"]
def i_Bounds_two : MtI := ⟨Str.ofString "Bounds", Str.ofString "two", ⟨Str.ofString "Bounds.two", (clsBody (top 78)).getD 12 (.Pass ⟨0, 0, 0, 0⟩), n_Bounds_two, m_Bounds_two⟩⟩
def n_Bounds_apply : List Str := [Str.ofString "self", Str.ofString "rule", Str.ofString "word", Str.ofString "index"]
def i_Bounds_apply : MtI := ⟨Str.ofString "Bounds", Str.ofString "apply", ⟨Str.ofString "Bounds.apply", (clsBody (top 78)).getD 13 (.Pass ⟨0, 0, 0, 0⟩), n_Bounds_apply, m_Bounds_apply⟩⟩
def n_Bounds_is_broken : List Str := [Str.ofString "self", Str.ofString "index", Str.ofString "report", Str.ofString "word"]
def i_Bounds_is_broken : MtI := ⟨Str.ofString "Bounds", Str.ofString "is_broken", ⟨Str.ofString "Bounds.is_broken", (clsBody (top 78)).getD 14 (.Pass ⟨0, 0, 0, 0⟩), n_Bounds_is_broken, m_Bounds_is_broken⟩⟩
def e_InvalidNumber : ExI := ⟨Str.ofString "InvalidNumber", Str.ofString "given", (clsBody (top 6)).getD 0 (.Pass ⟨0, 0, 0, 0⟩), 0⟩
def e_TooMany : ExI := ⟨Str.ofString "TooMany", Str.ofString "limit", (clsBody (top 7)).getD 0 (.Pass ⟨0, 0, 0, 0⟩), 1⟩
def e_Refused : ExI := ⟨Str.ofString "Refused", Str.ofString "reason", (clsBody (top 8)).getD 0 (.Pass ⟨0, 0, 0, 0⟩), 2⟩
def slc : List (Str × List Str) := [(Str.ofString "Land", fs_Land), (Str.ofString "Bounds", fs_Bounds)]
def cla : List (Nat × Str) := [(5, Str.ofString "given"), (6, Str.ofString "limit"), (7, Str.ofString "reason")]
def odm0 : List Str := [Str.ofString "first_odd"]
def odm : List Str := odm0
def fnm0 : List Str := [Str.ofString "is_whole", Str.ofString "is_within", Str.ofString "before", Str.ofString "behind", Str.ofString "moved", Str.ofString "goes_ahead", Str.ofString "is_row_of", Str.ofString "is_burn"]
def fnm1 : List Str := [Str.ofString "is_way", Str.ofString "is_origin", Str.ofString "land_fault", Str.ofString "require_land", Str.ofString "is_cell_of", Str.ofString "is_hour_of", Str.ofString "is_caught_row", Str.ofString "is_out_row"]
def fnm2 : List Str := [Str.ofString "is_draft_of", Str.ofString "is_burn_kept", Str.ofString "can_come_by", Str.ofString "is_caused", Str.ofString "due_hour", Str.ofString "is_must_kept", Str.ofString "faults_in", Str.ofString "is_fitting_in"]
def fnm3 : List Str := [Str.ofString "is_pair_of", Str.ofString "are_pairs_of", Str.ofString "is_report_of", Str.ofString "are_reports_of", Str.ofString "is_by", Str.ofString "is_some_burnt", Str.ofString "do_two_hold", Str.ofString "does_hold_in"]
def fnm4 : List Str := [Str.ofString "do_hold_in", Str.ofString "require_reports", Str.ofString "rules_of", Str.ofString "ended", Str.ofString "least_in", Str.ofString "row_in", Str.ofString "is_rule_of", Str.ofString "are_rules_of"]
def fnm5 : List Str := [Str.ofString "led_by", Str.ofString "is_row_in", Str.ofString "of_lot", Str.ofString "is_true_lot", Str.ofString "struck", Str.ofString "others_of", Str.ofString "is_some_lie", Str.ofString "is_some_truth"]
def fnm6 : List Str := [Str.ofString "all_lots", Str.ofString "are_within", Str.ofString "lies_in", Str.ofString "truths_of", Str.ofString "left_out", Str.ofString "most_apart", Str.ofString "require_told", Str.ofString "is_lot_of"]
def fnm7 : List Str := [Str.ofString "require_lot", Str.ofString "require_few", Str.ofString "known_lies", Str.ofString "can_be_true", Str.ofString "true_paper", Str.ofString "is_true_paper", Str.ofString "lie_within", Str.ofString "is_lie"]
def fnm8 : List Str := [Str.ofString "is_truth", Str.ofString "lie_paper", Str.ofString "is_lie_paper", Str.ofString "all_lies", Str.ofString "all_truths", Str.ofString "suspects", Str.ofString "guilty", Str.ofString "fewest_false"]
def fnm9 : List Str := [Str.ofString "truth_with", Str.ofString "apart_lies", Str.ofString "_law_bag", Str.ofString "_law_draw", Str.ofString "_law_one_of", Str.ofString "_law_mixed", Str.ofString "_law_lots", Str.ofString "_law_all_of"]
def fnm10 : List Str := [Str.ofString "_law_right", Str.ofString "law", Str.ofString "Land"]
def fnm : List Str := fnm0 ++ fnm1 ++ fnm2 ++ fnm3 ++ fnm4 ++ fnm5 ++ fnm6 ++ fnm7 ++ fnm8 ++ fnm9 ++ fnm10
def mtm : List (Str × Str) := [(Str.ofString "Land", Str.ofString "parts"), (Str.ofString "Bounds", Str.ofString "told"), (Str.ofString "Bounds", Str.ofString "put"), (Str.ofString "Bounds", Str.ofString "raise_caught"), (Str.ofString "Bounds", Str.ofString "raise_out"), (Str.ofString "Bounds", Str.ofString "cause"), (Str.ofString "Bounds", Str.ofString "must"), (Str.ofString "Bounds", Str.ofString "burn"), (Str.ofString "Bounds", Str.ofString "back"), (Str.ofString "Bounds", Str.ofString "are_behind"), (Str.ofString "Bounds", Str.ofString "report"), (Str.ofString "Bounds", Str.ofString "two"), (Str.ofString "Bounds", Str.ofString "apply"), (Str.ofString "Bounds", Str.ofString "is_broken")]
def obm0 : List Str := [Str.ofString "Bounds"]
def obm : List Str := obm0
def clm0 : List Str := [Str.ofString "FireError", Str.ofString "InvalidLand", Str.ofString "InvalidHistory", Str.ofString "InvalidReport", Str.ofString "InvalidOperation", Str.ofString "InvalidNumber", Str.ofString "TooMany", Str.ofString "Refused"]
def clm : List Str := clm0
def tlm0 : List Str := [Str.ofString "_law_met"]
def tlm : List Str := tlm0
def gdn0 : List Str := []
def gdn : List Str := gdn0
def mkr0 : List Str := [Str.ofString "land_fault", Str.ofString "_law_lots", Str.ofString "_law_all_of", Str.ofString "_law_right"]
def mkr : List Str := mkr0
def gcn0 : List Str := [Str.ofString "MAX_HORIZON", Str.ofString "GREAT", Str.ofString "MAX_CELLS", Str.ofString "MAX_WAYS", Str.ofString "MAX_ORIGINS", Str.ofString "MAX_BURN", Str.ofString "BURN_histories", Str.ofString "CAUSE_histories"]
def gcn1 : List Str := [Str.ofString "MUST_histories", Str.ofString "MAX_REPORTS", Str.ofString "MAX_PAIRS", Str.ofString "MAX_LAG", Str.ofString "AHEAD", Str.ofString "BEHIND", Str.ofString "BURNT", Str.ofString "OUT"]
def gcn2 : List Str := [Str.ofString "SOME", Str.ofString "STILL", Str.ofString "UNLESS", Str.ofString "WHOLE", Str.ofString "AT_AN_HOUR", Str.ofString "OF_TWO", Str.ofString "CAUSE_earliest", Str.ofString "MUST_earliest"]
def gcn3 : List Str := [Str.ofString "BURN_earliest", Str.ofString "BACK", Str.ofString "REPORT", Str.ofString "END", Str.ofString "MOST_LIES", Str.ofString "FITS", Str.ofString "ROW"]
def gcn : List Str := gcn0 ++ gcn1 ++ gcn2 ++ gcn3
def free0 : List Str := [Str.ofString "len", Str.ofString "isinstance", Str.ofString "int", Str.ofString "bool", Str.ofString "tuple", Str.ofString "list", Str.ofString "str", Str.ofString "range"]
def free1 : List Str := [Str.ofString "max", Str.ofString "min", Str.ofString "abs", Str.ofString "repr", Str.ofString "all", Str.ofString "any", Str.ofString "enumerate", Str.ofString "zip"]
def free2 : List Str := [Str.ofString "sorted"]
def free : List Str := free0 ++ free1 ++ free2
def loose0 : List Str := [Str.ofString "FireError", Str.ofString "InvalidLand", Str.ofString "InvalidHistory", Str.ofString "InvalidReport", Str.ofString "InvalidOperation", Str.ofString "InvalidNumber", Str.ofString "TooMany", Str.ofString "Refused"]
def loose1 : List Str := [Str.ofString "MAX_HORIZON", Str.ofString "GREAT", Str.ofString "is_whole", Str.ofString "is_within", Str.ofString "before", Str.ofString "behind", Str.ofString "moved", Str.ofString "goes_ahead"]
def loose2 : List Str := [Str.ofString "MAX_CELLS", Str.ofString "MAX_WAYS", Str.ofString "MAX_ORIGINS", Str.ofString "MAX_BURN", Str.ofString "is_row_of", Str.ofString "is_burn", Str.ofString "is_way", Str.ofString "is_origin"]
def loose3 : List Str := [Str.ofString "first_odd", Str.ofString "land_fault", Str.ofString "Land", Str.ofString "require_land", Str.ofString "is_cell_of", Str.ofString "is_hour_of", Str.ofString "BURN_histories", Str.ofString "CAUSE_histories"]
def loose4 : List Str := [Str.ofString "MUST_histories", Str.ofString "is_caught_row", Str.ofString "is_out_row", Str.ofString "is_draft_of", Str.ofString "is_burn_kept", Str.ofString "can_come_by", Str.ofString "is_caused", Str.ofString "due_hour"]
def loose5 : List Str := [Str.ofString "is_must_kept", Str.ofString "faults_in", Str.ofString "is_fitting_in", Str.ofString "MAX_REPORTS", Str.ofString "MAX_PAIRS", Str.ofString "MAX_LAG", Str.ofString "AHEAD", Str.ofString "BEHIND"]
def loose6 : List Str := [Str.ofString "BURNT", Str.ofString "OUT", Str.ofString "SOME", Str.ofString "STILL", Str.ofString "UNLESS", Str.ofString "WHOLE", Str.ofString "AT_AN_HOUR", Str.ofString "OF_TWO"]
def loose7 : List Str := [Str.ofString "is_pair_of", Str.ofString "are_pairs_of", Str.ofString "is_report_of", Str.ofString "are_reports_of", Str.ofString "is_by", Str.ofString "is_some_burnt", Str.ofString "do_two_hold", Str.ofString "does_hold_in"]
def loose8 : List Str := [Str.ofString "do_hold_in", Str.ofString "require_reports", Str.ofString "CAUSE_earliest", Str.ofString "MUST_earliest", Str.ofString "BURN_earliest", Str.ofString "BACK", Str.ofString "REPORT", Str.ofString "END"]
def loose9 : List Str := [Str.ofString "Bounds", Str.ofString "rules_of", Str.ofString "ended", Str.ofString "least_in", Str.ofString "row_in", Str.ofString "is_rule_of", Str.ofString "are_rules_of", Str.ofString "led_by"]
def loose10 : List Str := [Str.ofString "is_row_in", Str.ofString "MOST_LIES", Str.ofString "FITS", Str.ofString "ROW", Str.ofString "of_lot", Str.ofString "is_true_lot", Str.ofString "struck", Str.ofString "others_of"]
def loose11 : List Str := [Str.ofString "is_some_lie", Str.ofString "is_some_truth", Str.ofString "all_lots", Str.ofString "are_within", Str.ofString "lies_in", Str.ofString "truths_of", Str.ofString "left_out", Str.ofString "most_apart"]
def loose12 : List Str := [Str.ofString "require_told", Str.ofString "is_lot_of", Str.ofString "require_lot", Str.ofString "require_few", Str.ofString "known_lies", Str.ofString "can_be_true", Str.ofString "true_paper", Str.ofString "is_true_paper"]
def loose13 : List Str := [Str.ofString "lie_within", Str.ofString "is_lie", Str.ofString "is_truth", Str.ofString "lie_paper", Str.ofString "is_lie_paper", Str.ofString "all_lies", Str.ofString "all_truths", Str.ofString "suspects"]
def loose14 : List Str := [Str.ofString "guilty", Str.ofString "fewest_false", Str.ofString "truth_with", Str.ofString "apart_lies", Str.ofString "_law_bag", Str.ofString "_law_draw", Str.ofString "_law_one_of", Str.ofString "_law_mixed"]
def loose15 : List Str := [Str.ofString "_law_met", Str.ofString "_law_lots", Str.ofString "_law_all_of", Str.ofString "_law_right"]
def loose : List Str := loose0 ++ loose1 ++ loose2 ++ loose3 ++ loose4 ++ loose5 ++ loose6 ++ loose7 ++ loose8 ++ loose9 ++ loose10 ++ loose11 ++ loose12 ++ loose13 ++ loose14 ++ loose15
def lw : Lw := ⟨⟨fnm, gcn, free, false, clm, tlm, mkr, slc, odm, cla, mtm, obm, gdn⟩, md.gcs, [i_is_whole, i_is_within, i_before, i_behind, i_moved, i_goes_ahead, i_is_row_of, i_is_burn, i_is_way, i_is_origin, i_land_fault, i_require_land, i_is_cell_of, i_is_hour_of, i_is_caught_row, i_is_out_row, i_is_draft_of, i_is_burn_kept, i_can_come_by, i_is_caused, i_due_hour, i_is_must_kept, i_faults_in, i_is_fitting_in, i_is_pair_of, i_are_pairs_of, i_is_report_of, i_are_reports_of, i_is_by, i_is_some_burnt, i_do_two_hold, i_does_hold_in, i_do_hold_in, i_require_reports, i_rules_of, i_ended, i_least_in, i_row_in, i_is_rule_of, i_are_rules_of, i_led_by, i_is_row_in, i_of_lot, i_is_true_lot, i_struck, i_others_of, i_is_some_lie, i_is_some_truth, i_all_lots, i_are_within, i_lies_in, i_truths_of, i_left_out, i_most_apart, i_require_told, i_is_lot_of, i_require_lot, i_require_few, i_known_lies, i_can_be_true, i_true_paper, i_is_true_paper, i_lie_within, i_is_lie, i_is_truth, i_lie_paper, i_is_lie_paper, i_all_lies, i_all_truths, i_suspects, i_guilty, i_fewest_false, i_truth_with, i_apart_lies, i__law_bag, i__law_draw, i__law_one_of, i__law_mixed, i__law_lots, i__law_all_of, i__law_right, i_law], sb, [i__law_met], [i_Land], [i_first_odd], [e_InvalidNumber, e_TooMany, e_Refused], "/claim/cut.py", [i_Land_parts, i_Bounds_told, i_Bounds_put, i_Bounds_raise_caught, i_Bounds_raise_out, i_Bounds_cause, i_Bounds_must, i_Bounds_burn, i_Bounds_back, i_Bounds_are_behind, i_Bounds_report, i_Bounds_two, i_Bounds_apply, i_Bounds_is_broken], [i_Bounds], md.gds⟩
theorem md_eq : lw.md = md := rfl
theorem lw_ok : lw.ok 80 = true := by decide +kernel
theorem b_is_whole (kV doc pm : Value) (an : Option Addr) (cdv ct : Value) (us : List Value) (h : us.length = i_is_whole.ps.length) : bindArgs (PySem.W.fnOf i_is_whole.x i_is_whole.x (defArgs i_is_whole.st) (defBody i_is_whole.st) (defScope i_is_whole.st) .none kV doc pm an cdv ct) ⟨us, []⟩ = pure (i_is_whole.ps.zip us) := match us, h with | [_], _ => rfl
theorem b_is_within (kV doc pm : Value) (an : Option Addr) (cdv ct : Value) (us : List Value) (h : us.length = i_is_within.ps.length) : bindArgs (PySem.W.fnOf i_is_within.x i_is_within.x (defArgs i_is_within.st) (defBody i_is_within.st) (defScope i_is_within.st) .none kV doc pm an cdv ct) ⟨us, []⟩ = pure (i_is_within.ps.zip us) := match us, h with | [_, _, _], _ => rfl
theorem b_before (kV doc pm : Value) (an : Option Addr) (cdv ct : Value) (us : List Value) (h : us.length = i_before.ps.length) : bindArgs (PySem.W.fnOf i_before.x i_before.x (defArgs i_before.st) (defBody i_before.st) (defScope i_before.st) .none kV doc pm an cdv ct) ⟨us, []⟩ = pure (i_before.ps.zip us) := match us, h with | [_, _], _ => rfl
theorem b_behind (kV doc pm : Value) (an : Option Addr) (cdv ct : Value) (us : List Value) (h : us.length = i_behind.ps.length) : bindArgs (PySem.W.fnOf i_behind.x i_behind.x (defArgs i_behind.st) (defBody i_behind.st) (defScope i_behind.st) .none kV doc pm an cdv ct) ⟨us, []⟩ = pure (i_behind.ps.zip us) := match us, h with | [_, _], _ => rfl
theorem b_moved (kV doc pm : Value) (an : Option Addr) (cdv ct : Value) (us : List Value) (h : us.length = i_moved.ps.length) : bindArgs (PySem.W.fnOf i_moved.x i_moved.x (defArgs i_moved.st) (defBody i_moved.st) (defScope i_moved.st) .none kV doc pm an cdv ct) ⟨us, []⟩ = pure (i_moved.ps.zip us) := match us, h with | [_, _, _], _ => rfl
theorem b_goes_ahead (kV doc pm : Value) (an : Option Addr) (cdv ct : Value) (us : List Value) (h : us.length = i_goes_ahead.ps.length) : bindArgs (PySem.W.fnOf i_goes_ahead.x i_goes_ahead.x (defArgs i_goes_ahead.st) (defBody i_goes_ahead.st) (defScope i_goes_ahead.st) .none kV doc pm an cdv ct) ⟨us, []⟩ = pure (i_goes_ahead.ps.zip us) := match us, h with | [_, _, _], _ => rfl
theorem b_is_row_of (kV doc pm : Value) (an : Option Addr) (cdv ct : Value) (us : List Value) (h : us.length = i_is_row_of.ps.length) : bindArgs (PySem.W.fnOf i_is_row_of.x i_is_row_of.x (defArgs i_is_row_of.st) (defBody i_is_row_of.st) (defScope i_is_row_of.st) .none kV doc pm an cdv ct) ⟨us, []⟩ = pure (i_is_row_of.ps.zip us) := match us, h with | [_, _], _ => rfl
theorem b_is_burn (kV doc pm : Value) (an : Option Addr) (cdv ct : Value) (us : List Value) (h : us.length = i_is_burn.ps.length) : bindArgs (PySem.W.fnOf i_is_burn.x i_is_burn.x (defArgs i_is_burn.st) (defBody i_is_burn.st) (defScope i_is_burn.st) .none kV doc pm an cdv ct) ⟨us, []⟩ = pure (i_is_burn.ps.zip us) := match us, h with | [_], _ => rfl
theorem b_is_way (kV doc pm : Value) (an : Option Addr) (cdv ct : Value) (us : List Value) (h : us.length = i_is_way.ps.length) : bindArgs (PySem.W.fnOf i_is_way.x i_is_way.x (defArgs i_is_way.st) (defBody i_is_way.st) (defScope i_is_way.st) .none kV doc pm an cdv ct) ⟨us, []⟩ = pure (i_is_way.ps.zip us) := match us, h with | [_, _, _, _], _ => rfl
theorem b_is_origin (kV doc pm : Value) (an : Option Addr) (cdv ct : Value) (us : List Value) (h : us.length = i_is_origin.ps.length) : bindArgs (PySem.W.fnOf i_is_origin.x i_is_origin.x (defArgs i_is_origin.st) (defBody i_is_origin.st) (defScope i_is_origin.st) .none kV doc pm an cdv ct) ⟨us, []⟩ = pure (i_is_origin.ps.zip us) := match us, h with | [_, _, _], _ => rfl
theorem b_land_fault (kV doc pm : Value) (an : Option Addr) (cdv ct : Value) (us : List Value) (h : us.length = i_land_fault.ps.length) : bindArgs (PySem.W.fnOf i_land_fault.x i_land_fault.x (defArgs i_land_fault.st) (defBody i_land_fault.st) (defScope i_land_fault.st) .none kV doc pm an cdv ct) ⟨us, []⟩ = pure (i_land_fault.ps.zip us) := match us, h with | [_, _, _, _, _], _ => rfl
theorem b_require_land (kV doc pm : Value) (an : Option Addr) (cdv ct : Value) (us : List Value) (h : us.length = i_require_land.ps.length) : bindArgs (PySem.W.fnOf i_require_land.x i_require_land.x (defArgs i_require_land.st) (defBody i_require_land.st) (defScope i_require_land.st) .none kV doc pm an cdv ct) ⟨us, []⟩ = pure (i_require_land.ps.zip us) := match us, h with | [_], _ => rfl
theorem b_is_cell_of (kV doc pm : Value) (an : Option Addr) (cdv ct : Value) (us : List Value) (h : us.length = i_is_cell_of.ps.length) : bindArgs (PySem.W.fnOf i_is_cell_of.x i_is_cell_of.x (defArgs i_is_cell_of.st) (defBody i_is_cell_of.st) (defScope i_is_cell_of.st) .none kV doc pm an cdv ct) ⟨us, []⟩ = pure (i_is_cell_of.ps.zip us) := match us, h with | [_, _], _ => rfl
theorem b_is_hour_of (kV doc pm : Value) (an : Option Addr) (cdv ct : Value) (us : List Value) (h : us.length = i_is_hour_of.ps.length) : bindArgs (PySem.W.fnOf i_is_hour_of.x i_is_hour_of.x (defArgs i_is_hour_of.st) (defBody i_is_hour_of.st) (defScope i_is_hour_of.st) .none kV doc pm an cdv ct) ⟨us, []⟩ = pure (i_is_hour_of.ps.zip us) := match us, h with | [_, _], _ => rfl
theorem b_is_caught_row (kV doc pm : Value) (an : Option Addr) (cdv ct : Value) (us : List Value) (h : us.length = i_is_caught_row.ps.length) : bindArgs (PySem.W.fnOf i_is_caught_row.x i_is_caught_row.x (defArgs i_is_caught_row.st) (defBody i_is_caught_row.st) (defScope i_is_caught_row.st) .none kV doc pm an cdv ct) ⟨us, []⟩ = pure (i_is_caught_row.ps.zip us) := match us, h with | [_, _], _ => rfl
theorem b_is_out_row (kV doc pm : Value) (an : Option Addr) (cdv ct : Value) (us : List Value) (h : us.length = i_is_out_row.ps.length) : bindArgs (PySem.W.fnOf i_is_out_row.x i_is_out_row.x (defArgs i_is_out_row.st) (defBody i_is_out_row.st) (defScope i_is_out_row.st) .none kV doc pm an cdv ct) ⟨us, []⟩ = pure (i_is_out_row.ps.zip us) := match us, h with | [_, _], _ => rfl
theorem b_is_draft_of (kV doc pm : Value) (an : Option Addr) (cdv ct : Value) (us : List Value) (h : us.length = i_is_draft_of.ps.length) : bindArgs (PySem.W.fnOf i_is_draft_of.x i_is_draft_of.x (defArgs i_is_draft_of.st) (defBody i_is_draft_of.st) (defScope i_is_draft_of.st) .none kV doc pm an cdv ct) ⟨us, []⟩ = pure (i_is_draft_of.ps.zip us) := match us, h with | [_, _], _ => rfl
theorem b_is_burn_kept (kV doc pm : Value) (an : Option Addr) (cdv ct : Value) (us : List Value) (h : us.length = i_is_burn_kept.ps.length) : bindArgs (PySem.W.fnOf i_is_burn_kept.x i_is_burn_kept.x (defArgs i_is_burn_kept.st) (defBody i_is_burn_kept.st) (defScope i_is_burn_kept.st) .none kV doc pm an cdv ct) ⟨us, []⟩ = pure (i_is_burn_kept.ps.zip us) := match us, h with | [_, _, _], _ => rfl
theorem b_can_come_by (kV doc pm : Value) (an : Option Addr) (cdv ct : Value) (us : List Value) (h : us.length = i_can_come_by.ps.length) : bindArgs (PySem.W.fnOf i_can_come_by.x i_can_come_by.x (defArgs i_can_come_by.st) (defBody i_can_come_by.st) (defScope i_can_come_by.st) .none kV doc pm an cdv ct) ⟨us, []⟩ = pure (i_can_come_by.ps.zip us) := match us, h with | [_, _, _], _ => rfl
theorem b_is_caused (kV doc pm : Value) (an : Option Addr) (cdv ct : Value) (us : List Value) (h : us.length = i_is_caused.ps.length) : bindArgs (PySem.W.fnOf i_is_caused.x i_is_caused.x (defArgs i_is_caused.st) (defBody i_is_caused.st) (defScope i_is_caused.st) .none kV doc pm an cdv ct) ⟨us, []⟩ = pure (i_is_caused.ps.zip us) := match us, h with | [_, _, _], _ => rfl
theorem b_due_hour (kV doc pm : Value) (an : Option Addr) (cdv ct : Value) (us : List Value) (h : us.length = i_due_hour.ps.length) : bindArgs (PySem.W.fnOf i_due_hour.x i_due_hour.x (defArgs i_due_hour.st) (defBody i_due_hour.st) (defScope i_due_hour.st) .none kV doc pm an cdv ct) ⟨us, []⟩ = pure (i_due_hour.ps.zip us) := match us, h with | [_, _, _], _ => rfl
theorem b_is_must_kept (kV doc pm : Value) (an : Option Addr) (cdv ct : Value) (us : List Value) (h : us.length = i_is_must_kept.ps.length) : bindArgs (PySem.W.fnOf i_is_must_kept.x i_is_must_kept.x (defArgs i_is_must_kept.st) (defBody i_is_must_kept.st) (defScope i_is_must_kept.st) .none kV doc pm an cdv ct) ⟨us, []⟩ = pure (i_is_must_kept.ps.zip us) := match us, h with | [_, _, _], _ => rfl
theorem b_faults_in (kV doc pm : Value) (an : Option Addr) (cdv ct : Value) (us : List Value) (h : us.length = i_faults_in.ps.length) : bindArgs (PySem.W.fnOf i_faults_in.x i_faults_in.x (defArgs i_faults_in.st) (defBody i_faults_in.st) (defScope i_faults_in.st) .none kV doc pm an cdv ct) ⟨us, []⟩ = pure (i_faults_in.ps.zip us) := match us, h with | [_, _], _ => rfl
theorem b_is_fitting_in (kV doc pm : Value) (an : Option Addr) (cdv ct : Value) (us : List Value) (h : us.length = i_is_fitting_in.ps.length) : bindArgs (PySem.W.fnOf i_is_fitting_in.x i_is_fitting_in.x (defArgs i_is_fitting_in.st) (defBody i_is_fitting_in.st) (defScope i_is_fitting_in.st) .none kV doc pm an cdv ct) ⟨us, []⟩ = pure (i_is_fitting_in.ps.zip us) := match us, h with | [_, _], _ => rfl
theorem b_is_pair_of (kV doc pm : Value) (an : Option Addr) (cdv ct : Value) (us : List Value) (h : us.length = i_is_pair_of.ps.length) : bindArgs (PySem.W.fnOf i_is_pair_of.x i_is_pair_of.x (defArgs i_is_pair_of.st) (defBody i_is_pair_of.st) (defScope i_is_pair_of.st) .none kV doc pm an cdv ct) ⟨us, []⟩ = pure (i_is_pair_of.ps.zip us) := match us, h with | [_, _], _ => rfl
theorem b_are_pairs_of (kV doc pm : Value) (an : Option Addr) (cdv ct : Value) (us : List Value) (h : us.length = i_are_pairs_of.ps.length) : bindArgs (PySem.W.fnOf i_are_pairs_of.x i_are_pairs_of.x (defArgs i_are_pairs_of.st) (defBody i_are_pairs_of.st) (defScope i_are_pairs_of.st) .none kV doc pm an cdv ct) ⟨us, []⟩ = pure (i_are_pairs_of.ps.zip us) := match us, h with | [_, _], _ => rfl
theorem b_is_report_of (kV doc pm : Value) (an : Option Addr) (cdv ct : Value) (us : List Value) (h : us.length = i_is_report_of.ps.length) : bindArgs (PySem.W.fnOf i_is_report_of.x i_is_report_of.x (defArgs i_is_report_of.st) (defBody i_is_report_of.st) (defScope i_is_report_of.st) .none kV doc pm an cdv ct) ⟨us, []⟩ = pure (i_is_report_of.ps.zip us) := match us, h with | [_, _], _ => rfl
theorem b_are_reports_of (kV doc pm : Value) (an : Option Addr) (cdv ct : Value) (us : List Value) (h : us.length = i_are_reports_of.ps.length) : bindArgs (PySem.W.fnOf i_are_reports_of.x i_are_reports_of.x (defArgs i_are_reports_of.st) (defBody i_are_reports_of.st) (defScope i_are_reports_of.st) .none kV doc pm an cdv ct) ⟨us, []⟩ = pure (i_are_reports_of.ps.zip us) := match us, h with | [_, _], _ => rfl
theorem b_is_by (kV doc pm : Value) (an : Option Addr) (cdv ct : Value) (us : List Value) (h : us.length = i_is_by.ps.length) : bindArgs (PySem.W.fnOf i_is_by.x i_is_by.x (defArgs i_is_by.st) (defBody i_is_by.st) (defScope i_is_by.st) .none kV doc pm an cdv ct) ⟨us, []⟩ = pure (i_is_by.ps.zip us) := match us, h with | [_, _], _ => rfl
theorem b_is_some_burnt (kV doc pm : Value) (an : Option Addr) (cdv ct : Value) (us : List Value) (h : us.length = i_is_some_burnt.ps.length) : bindArgs (PySem.W.fnOf i_is_some_burnt.x i_is_some_burnt.x (defArgs i_is_some_burnt.st) (defBody i_is_some_burnt.st) (defScope i_is_some_burnt.st) .none kV doc pm an cdv ct) ⟨us, []⟩ = pure (i_is_some_burnt.ps.zip us) := match us, h with | [_, _], _ => rfl
theorem b_do_two_hold (kV doc pm : Value) (an : Option Addr) (cdv ct : Value) (us : List Value) (h : us.length = i_do_two_hold.ps.length) : bindArgs (PySem.W.fnOf i_do_two_hold.x i_do_two_hold.x (defArgs i_do_two_hold.st) (defBody i_do_two_hold.st) (defScope i_do_two_hold.st) .none kV doc pm an cdv ct) ⟨us, []⟩ = pure (i_do_two_hold.ps.zip us) := match us, h with | [_, _, _, _, _], _ => rfl
theorem b_does_hold_in (kV doc pm : Value) (an : Option Addr) (cdv ct : Value) (us : List Value) (h : us.length = i_does_hold_in.ps.length) : bindArgs (PySem.W.fnOf i_does_hold_in.x i_does_hold_in.x (defArgs i_does_hold_in.st) (defBody i_does_hold_in.st) (defScope i_does_hold_in.st) .none kV doc pm an cdv ct) ⟨us, []⟩ = pure (i_does_hold_in.ps.zip us) := match us, h with | [_, _], _ => rfl
theorem b_do_hold_in (kV doc pm : Value) (an : Option Addr) (cdv ct : Value) (us : List Value) (h : us.length = i_do_hold_in.ps.length) : bindArgs (PySem.W.fnOf i_do_hold_in.x i_do_hold_in.x (defArgs i_do_hold_in.st) (defBody i_do_hold_in.st) (defScope i_do_hold_in.st) .none kV doc pm an cdv ct) ⟨us, []⟩ = pure (i_do_hold_in.ps.zip us) := match us, h with | [_, _], _ => rfl
theorem b_require_reports (kV doc pm : Value) (an : Option Addr) (cdv ct : Value) (us : List Value) (h : us.length = i_require_reports.ps.length) : bindArgs (PySem.W.fnOf i_require_reports.x i_require_reports.x (defArgs i_require_reports.st) (defBody i_require_reports.st) (defScope i_require_reports.st) .none kV doc pm an cdv ct) ⟨us, []⟩ = pure (i_require_reports.ps.zip us) := match us, h with | [_, _], _ => rfl
theorem b_rules_of (kV doc pm : Value) (an : Option Addr) (cdv ct : Value) (us : List Value) (h : us.length = i_rules_of.ps.length) : bindArgs (PySem.W.fnOf i_rules_of.x i_rules_of.x (defArgs i_rules_of.st) (defBody i_rules_of.st) (defScope i_rules_of.st) .none kV doc pm an cdv ct) ⟨us, []⟩ = pure (i_rules_of.ps.zip us) := match us, h with | [_, _], _ => rfl
theorem b_ended (kV doc pm : Value) (an : Option Addr) (cdv ct : Value) (us : List Value) (h : us.length = i_ended.ps.length) : bindArgs (PySem.W.fnOf i_ended.x i_ended.x (defArgs i_ended.st) (defBody i_ended.st) (defScope i_ended.st) .none kV doc pm an cdv ct) ⟨us, []⟩ = pure (i_ended.ps.zip us) := match us, h with | [_, _], _ => rfl
theorem b_least_in (kV doc pm : Value) (an : Option Addr) (cdv ct : Value) (us : List Value) (h : us.length = i_least_in.ps.length) : bindArgs (PySem.W.fnOf i_least_in.x i_least_in.x (defArgs i_least_in.st) (defBody i_least_in.st) (defScope i_least_in.st) .none kV doc pm an cdv ct) ⟨us, []⟩ = pure (i_least_in.ps.zip us) := match us, h with | [_, _], _ => rfl
theorem b_row_in (kV doc pm : Value) (an : Option Addr) (cdv ct : Value) (us : List Value) (h : us.length = i_row_in.ps.length) : bindArgs (PySem.W.fnOf i_row_in.x i_row_in.x (defArgs i_row_in.st) (defBody i_row_in.st) (defScope i_row_in.st) .none kV doc pm an cdv ct) ⟨us, []⟩ = pure (i_row_in.ps.zip us) := match us, h with | [_, _], _ => rfl
theorem b_is_rule_of (kV doc pm : Value) (an : Option Addr) (cdv ct : Value) (us : List Value) (h : us.length = i_is_rule_of.ps.length) : bindArgs (PySem.W.fnOf i_is_rule_of.x i_is_rule_of.x (defArgs i_is_rule_of.st) (defBody i_is_rule_of.st) (defScope i_is_rule_of.st) .none kV doc pm an cdv ct) ⟨us, []⟩ = pure (i_is_rule_of.ps.zip us) := match us, h with | [_, _, _], _ => rfl
theorem b_are_rules_of (kV doc pm : Value) (an : Option Addr) (cdv ct : Value) (us : List Value) (h : us.length = i_are_rules_of.ps.length) : bindArgs (PySem.W.fnOf i_are_rules_of.x i_are_rules_of.x (defArgs i_are_rules_of.st) (defBody i_are_rules_of.st) (defScope i_are_rules_of.st) .none kV doc pm an cdv ct) ⟨us, []⟩ = pure (i_are_rules_of.ps.zip us) := match us, h with | [_, _, _], _ => rfl
theorem b_led_by (kV doc pm : Value) (an : Option Addr) (cdv ct : Value) (us : List Value) (h : us.length = i_led_by.ps.length) : bindArgs (PySem.W.fnOf i_led_by.x i_led_by.x (defArgs i_led_by.st) (defBody i_led_by.st) (defScope i_led_by.st) .none kV doc pm an cdv ct) ⟨us, []⟩ = pure (i_led_by.ps.zip us) := match us, h with | [_, _, _], _ => rfl
theorem b_is_row_in (kV doc pm : Value) (an : Option Addr) (cdv ct : Value) (us : List Value) (h : us.length = i_is_row_in.ps.length) : bindArgs (PySem.W.fnOf i_is_row_in.x i_is_row_in.x (defArgs i_is_row_in.st) (defBody i_is_row_in.st) (defScope i_is_row_in.st) .none kV doc pm an cdv ct) ⟨us, []⟩ = pure (i_is_row_in.ps.zip us) := match us, h with | [_, _, _], _ => rfl
theorem b_of_lot (kV doc pm : Value) (an : Option Addr) (cdv ct : Value) (us : List Value) (h : us.length = i_of_lot.ps.length) : bindArgs (PySem.W.fnOf i_of_lot.x i_of_lot.x (defArgs i_of_lot.st) (defBody i_of_lot.st) (defScope i_of_lot.st) .none kV doc pm an cdv ct) ⟨us, []⟩ = pure (i_of_lot.ps.zip us) := match us, h with | [_, _], _ => rfl
theorem b_is_true_lot (kV doc pm : Value) (an : Option Addr) (cdv ct : Value) (us : List Value) (h : us.length = i_is_true_lot.ps.length) : bindArgs (PySem.W.fnOf i_is_true_lot.x i_is_true_lot.x (defArgs i_is_true_lot.st) (defBody i_is_true_lot.st) (defScope i_is_true_lot.st) .none kV doc pm an cdv ct) ⟨us, []⟩ = pure (i_is_true_lot.ps.zip us) := match us, h with | [_, _, _], _ => rfl
theorem b_struck (kV doc pm : Value) (an : Option Addr) (cdv ct : Value) (us : List Value) (h : us.length = i_struck.ps.length) : bindArgs (PySem.W.fnOf i_struck.x i_struck.x (defArgs i_struck.st) (defBody i_struck.st) (defScope i_struck.st) .none kV doc pm an cdv ct) ⟨us, []⟩ = pure (i_struck.ps.zip us) := match us, h with | [_, _, _], _ => rfl
theorem b_others_of (kV doc pm : Value) (an : Option Addr) (cdv ct : Value) (us : List Value) (h : us.length = i_others_of.ps.length) : bindArgs (PySem.W.fnOf i_others_of.x i_others_of.x (defArgs i_others_of.st) (defBody i_others_of.st) (defScope i_others_of.st) .none kV doc pm an cdv ct) ⟨us, []⟩ = pure (i_others_of.ps.zip us) := match us, h with | [_, _], _ => rfl
theorem b_is_some_lie (kV doc pm : Value) (an : Option Addr) (cdv ct : Value) (us : List Value) (h : us.length = i_is_some_lie.ps.length) : bindArgs (PySem.W.fnOf i_is_some_lie.x i_is_some_lie.x (defArgs i_is_some_lie.st) (defBody i_is_some_lie.st) (defScope i_is_some_lie.st) .none kV doc pm an cdv ct) ⟨us, []⟩ = pure (i_is_some_lie.ps.zip us) := match us, h with | [_, _, _], _ => rfl
theorem b_is_some_truth (kV doc pm : Value) (an : Option Addr) (cdv ct : Value) (us : List Value) (h : us.length = i_is_some_truth.ps.length) : bindArgs (PySem.W.fnOf i_is_some_truth.x i_is_some_truth.x (defArgs i_is_some_truth.st) (defBody i_is_some_truth.st) (defScope i_is_some_truth.st) .none kV doc pm an cdv ct) ⟨us, []⟩ = pure (i_is_some_truth.ps.zip us) := match us, h with | [_, _, _], _ => rfl
theorem b_all_lots (kV doc pm : Value) (an : Option Addr) (cdv ct : Value) (us : List Value) (h : us.length = i_all_lots.ps.length) : bindArgs (PySem.W.fnOf i_all_lots.x i_all_lots.x (defArgs i_all_lots.st) (defBody i_all_lots.st) (defScope i_all_lots.st) .none kV doc pm an cdv ct) ⟨us, []⟩ = pure (i_all_lots.ps.zip us) := match us, h with | [_], _ => rfl
theorem b_are_within (kV doc pm : Value) (an : Option Addr) (cdv ct : Value) (us : List Value) (h : us.length = i_are_within.ps.length) : bindArgs (PySem.W.fnOf i_are_within.x i_are_within.x (defArgs i_are_within.st) (defBody i_are_within.st) (defScope i_are_within.st) .none kV doc pm an cdv ct) ⟨us, []⟩ = pure (i_are_within.ps.zip us) := match us, h with | [_, _], _ => rfl
theorem b_lies_in (kV doc pm : Value) (an : Option Addr) (cdv ct : Value) (us : List Value) (h : us.length = i_lies_in.ps.length) : bindArgs (PySem.W.fnOf i_lies_in.x i_lies_in.x (defArgs i_lies_in.st) (defBody i_lies_in.st) (defScope i_lies_in.st) .none kV doc pm an cdv ct) ⟨us, []⟩ = pure (i_lies_in.ps.zip us) := match us, h with | [_, _], _ => rfl
theorem b_truths_of (kV doc pm : Value) (an : Option Addr) (cdv ct : Value) (us : List Value) (h : us.length = i_truths_of.ps.length) : bindArgs (PySem.W.fnOf i_truths_of.x i_truths_of.x (defArgs i_truths_of.st) (defBody i_truths_of.st) (defScope i_truths_of.st) .none kV doc pm an cdv ct) ⟨us, []⟩ = pure (i_truths_of.ps.zip us) := match us, h with | [_, _], _ => rfl
theorem b_left_out (kV doc pm : Value) (an : Option Addr) (cdv ct : Value) (us : List Value) (h : us.length = i_left_out.ps.length) : bindArgs (PySem.W.fnOf i_left_out.x i_left_out.x (defArgs i_left_out.st) (defBody i_left_out.st) (defScope i_left_out.st) .none kV doc pm an cdv ct) ⟨us, []⟩ = pure (i_left_out.ps.zip us) := match us, h with | [_, _], _ => rfl
theorem b_most_apart (kV doc pm : Value) (an : Option Addr) (cdv ct : Value) (us : List Value) (h : us.length = i_most_apart.ps.length) : bindArgs (PySem.W.fnOf i_most_apart.x i_most_apart.x (defArgs i_most_apart.st) (defBody i_most_apart.st) (defScope i_most_apart.st) .none kV doc pm an cdv ct) ⟨us, []⟩ = pure (i_most_apart.ps.zip us) := match us, h with | [_], _ => rfl
theorem b_require_told (kV doc pm : Value) (an : Option Addr) (cdv ct : Value) (us : List Value) (h : us.length = i_require_told.ps.length) : bindArgs (PySem.W.fnOf i_require_told.x i_require_told.x (defArgs i_require_told.st) (defBody i_require_told.st) (defScope i_require_told.st) .none kV doc pm an cdv ct) ⟨us, []⟩ = pure (i_require_told.ps.zip us) := match us, h with | [_, _], _ => rfl
theorem b_is_lot_of (kV doc pm : Value) (an : Option Addr) (cdv ct : Value) (us : List Value) (h : us.length = i_is_lot_of.ps.length) : bindArgs (PySem.W.fnOf i_is_lot_of.x i_is_lot_of.x (defArgs i_is_lot_of.st) (defBody i_is_lot_of.st) (defScope i_is_lot_of.st) .none kV doc pm an cdv ct) ⟨us, []⟩ = pure (i_is_lot_of.ps.zip us) := match us, h with | [_, _], _ => rfl
theorem b_require_lot (kV doc pm : Value) (an : Option Addr) (cdv ct : Value) (us : List Value) (h : us.length = i_require_lot.ps.length) : bindArgs (PySem.W.fnOf i_require_lot.x i_require_lot.x (defArgs i_require_lot.st) (defBody i_require_lot.st) (defScope i_require_lot.st) .none kV doc pm an cdv ct) ⟨us, []⟩ = pure (i_require_lot.ps.zip us) := match us, h with | [_, _, _], _ => rfl
theorem b_require_few (kV doc pm : Value) (an : Option Addr) (cdv ct : Value) (us : List Value) (h : us.length = i_require_few.ps.length) : bindArgs (PySem.W.fnOf i_require_few.x i_require_few.x (defArgs i_require_few.st) (defBody i_require_few.st) (defScope i_require_few.st) .none kV doc pm an cdv ct) ⟨us, []⟩ = pure (i_require_few.ps.zip us) := match us, h with | [_], _ => rfl
theorem b_known_lies (kV doc pm : Value) (an : Option Addr) (cdv ct : Value) (us : List Value) (h : us.length = i_known_lies.ps.length) : bindArgs (PySem.W.fnOf i_known_lies.x i_known_lies.x (defArgs i_known_lies.st) (defBody i_known_lies.st) (defScope i_known_lies.st) .none kV doc pm an cdv ct) ⟨us, []⟩ = pure (i_known_lies.ps.zip us) := match us, h with | [_, _], _ => rfl
theorem b_can_be_true (kV doc pm : Value) (an : Option Addr) (cdv ct : Value) (us : List Value) (h : us.length = i_can_be_true.ps.length) : bindArgs (PySem.W.fnOf i_can_be_true.x i_can_be_true.x (defArgs i_can_be_true.st) (defBody i_can_be_true.st) (defScope i_can_be_true.st) .none kV doc pm an cdv ct) ⟨us, []⟩ = pure (i_can_be_true.ps.zip us) := match us, h with | [_, _, _], _ => rfl
theorem b_true_paper (kV doc pm : Value) (an : Option Addr) (cdv ct : Value) (us : List Value) (h : us.length = i_true_paper.ps.length) : bindArgs (PySem.W.fnOf i_true_paper.x i_true_paper.x (defArgs i_true_paper.st) (defBody i_true_paper.st) (defScope i_true_paper.st) .none kV doc pm an cdv ct) ⟨us, []⟩ = pure (i_true_paper.ps.zip us) := match us, h with | [_, _, _], _ => rfl
theorem b_is_true_paper (kV doc pm : Value) (an : Option Addr) (cdv ct : Value) (us : List Value) (h : us.length = i_is_true_paper.ps.length) : bindArgs (PySem.W.fnOf i_is_true_paper.x i_is_true_paper.x (defArgs i_is_true_paper.st) (defBody i_is_true_paper.st) (defScope i_is_true_paper.st) .none kV doc pm an cdv ct) ⟨us, []⟩ = pure (i_is_true_paper.ps.zip us) := match us, h with | [_, _, _, _], _ => rfl
theorem b_lie_within (kV doc pm : Value) (an : Option Addr) (cdv ct : Value) (us : List Value) (h : us.length = i_lie_within.ps.length) : bindArgs (PySem.W.fnOf i_lie_within.x i_lie_within.x (defArgs i_lie_within.st) (defBody i_lie_within.st) (defScope i_lie_within.st) .none kV doc pm an cdv ct) ⟨us, []⟩ = pure (i_lie_within.ps.zip us) := match us, h with | [_, _, _], _ => rfl
theorem b_is_lie (kV doc pm : Value) (an : Option Addr) (cdv ct : Value) (us : List Value) (h : us.length = i_is_lie.ps.length) : bindArgs (PySem.W.fnOf i_is_lie.x i_is_lie.x (defArgs i_is_lie.st) (defBody i_is_lie.st) (defScope i_is_lie.st) .none kV doc pm an cdv ct) ⟨us, []⟩ = pure (i_is_lie.ps.zip us) := match us, h with | [_, _, _], _ => rfl
theorem b_is_truth (kV doc pm : Value) (an : Option Addr) (cdv ct : Value) (us : List Value) (h : us.length = i_is_truth.ps.length) : bindArgs (PySem.W.fnOf i_is_truth.x i_is_truth.x (defArgs i_is_truth.st) (defBody i_is_truth.st) (defScope i_is_truth.st) .none kV doc pm an cdv ct) ⟨us, []⟩ = pure (i_is_truth.ps.zip us) := match us, h with | [_, _, _], _ => rfl
theorem b_lie_paper (kV doc pm : Value) (an : Option Addr) (cdv ct : Value) (us : List Value) (h : us.length = i_lie_paper.ps.length) : bindArgs (PySem.W.fnOf i_lie_paper.x i_lie_paper.x (defArgs i_lie_paper.st) (defBody i_lie_paper.st) (defScope i_lie_paper.st) .none kV doc pm an cdv ct) ⟨us, []⟩ = pure (i_lie_paper.ps.zip us) := match us, h with | [_, _, _], _ => rfl
theorem b_is_lie_paper (kV doc pm : Value) (an : Option Addr) (cdv ct : Value) (us : List Value) (h : us.length = i_is_lie_paper.ps.length) : bindArgs (PySem.W.fnOf i_is_lie_paper.x i_is_lie_paper.x (defArgs i_is_lie_paper.st) (defBody i_is_lie_paper.st) (defScope i_is_lie_paper.st) .none kV doc pm an cdv ct) ⟨us, []⟩ = pure (i_is_lie_paper.ps.zip us) := match us, h with | [_, _, _, _], _ => rfl
theorem b_all_lies (kV doc pm : Value) (an : Option Addr) (cdv ct : Value) (us : List Value) (h : us.length = i_all_lies.ps.length) : bindArgs (PySem.W.fnOf i_all_lies.x i_all_lies.x (defArgs i_all_lies.st) (defBody i_all_lies.st) (defScope i_all_lies.st) .none kV doc pm an cdv ct) ⟨us, []⟩ = pure (i_all_lies.ps.zip us) := match us, h with | [_, _], _ => rfl
theorem b_all_truths (kV doc pm : Value) (an : Option Addr) (cdv ct : Value) (us : List Value) (h : us.length = i_all_truths.ps.length) : bindArgs (PySem.W.fnOf i_all_truths.x i_all_truths.x (defArgs i_all_truths.st) (defBody i_all_truths.st) (defScope i_all_truths.st) .none kV doc pm an cdv ct) ⟨us, []⟩ = pure (i_all_truths.ps.zip us) := match us, h with | [_, _], _ => rfl
theorem b_suspects (kV doc pm : Value) (an : Option Addr) (cdv ct : Value) (us : List Value) (h : us.length = i_suspects.ps.length) : bindArgs (PySem.W.fnOf i_suspects.x i_suspects.x (defArgs i_suspects.st) (defBody i_suspects.st) (defScope i_suspects.st) .none kV doc pm an cdv ct) ⟨us, []⟩ = pure (i_suspects.ps.zip us) := match us, h with | [_, _], _ => rfl
theorem b_guilty (kV doc pm : Value) (an : Option Addr) (cdv ct : Value) (us : List Value) (h : us.length = i_guilty.ps.length) : bindArgs (PySem.W.fnOf i_guilty.x i_guilty.x (defArgs i_guilty.st) (defBody i_guilty.st) (defScope i_guilty.st) .none kV doc pm an cdv ct) ⟨us, []⟩ = pure (i_guilty.ps.zip us) := match us, h with | [_, _], _ => rfl
theorem b_fewest_false (kV doc pm : Value) (an : Option Addr) (cdv ct : Value) (us : List Value) (h : us.length = i_fewest_false.ps.length) : bindArgs (PySem.W.fnOf i_fewest_false.x i_fewest_false.x (defArgs i_fewest_false.st) (defBody i_fewest_false.st) (defScope i_fewest_false.st) .none kV doc pm an cdv ct) ⟨us, []⟩ = pure (i_fewest_false.ps.zip us) := match us, h with | [_, _], _ => rfl
theorem b_truth_with (kV doc pm : Value) (an : Option Addr) (cdv ct : Value) (us : List Value) (h : us.length = i_truth_with.ps.length) : bindArgs (PySem.W.fnOf i_truth_with.x i_truth_with.x (defArgs i_truth_with.st) (defBody i_truth_with.st) (defScope i_truth_with.st) .none kV doc pm an cdv ct) ⟨us, []⟩ = pure (i_truth_with.ps.zip us) := match us, h with | [_, _, _], _ => rfl
theorem b_apart_lies (kV doc pm : Value) (an : Option Addr) (cdv ct : Value) (us : List Value) (h : us.length = i_apart_lies.ps.length) : bindArgs (PySem.W.fnOf i_apart_lies.x i_apart_lies.x (defArgs i_apart_lies.st) (defBody i_apart_lies.st) (defScope i_apart_lies.st) .none kV doc pm an cdv ct) ⟨us, []⟩ = pure (i_apart_lies.ps.zip us) := match us, h with | [_, _], _ => rfl
theorem b__law_bag (kV doc pm : Value) (an : Option Addr) (cdv ct : Value) (us : List Value) (h : us.length = i__law_bag.ps.length) : bindArgs (PySem.W.fnOf i__law_bag.x i__law_bag.x (defArgs i__law_bag.st) (defBody i__law_bag.st) (defScope i__law_bag.st) .none kV doc pm an cdv ct) ⟨us, []⟩ = pure (i__law_bag.ps.zip us) := match us, h with | [_, _], _ => rfl
theorem b__law_draw (kV doc pm : Value) (an : Option Addr) (cdv ct : Value) (us : List Value) (h : us.length = i__law_draw.ps.length) : bindArgs (PySem.W.fnOf i__law_draw.x i__law_draw.x (defArgs i__law_draw.st) (defBody i__law_draw.st) (defScope i__law_draw.st) .none kV doc pm an cdv ct) ⟨us, []⟩ = pure (i__law_draw.ps.zip us) := match us, h with | [_, _], _ => rfl
theorem b__law_one_of (kV doc pm : Value) (an : Option Addr) (cdv ct : Value) (us : List Value) (h : us.length = i__law_one_of.ps.length) : bindArgs (PySem.W.fnOf i__law_one_of.x i__law_one_of.x (defArgs i__law_one_of.st) (defBody i__law_one_of.st) (defScope i__law_one_of.st) .none kV doc pm an cdv ct) ⟨us, []⟩ = pure (i__law_one_of.ps.zip us) := match us, h with | [_, _], _ => rfl
theorem b__law_mixed (kV doc pm : Value) (an : Option Addr) (cdv ct : Value) (us : List Value) (h : us.length = i__law_mixed.ps.length) : bindArgs (PySem.W.fnOf i__law_mixed.x i__law_mixed.x (defArgs i__law_mixed.st) (defBody i__law_mixed.st) (defScope i__law_mixed.st) .none kV doc pm an cdv ct) ⟨us, []⟩ = pure (i__law_mixed.ps.zip us) := match us, h with | [_, _], _ => rfl
theorem b__law_lots (kV doc pm : Value) (an : Option Addr) (cdv ct : Value) (us : List Value) (h : us.length = i__law_lots.ps.length) : bindArgs (PySem.W.fnOf i__law_lots.x i__law_lots.x (defArgs i__law_lots.st) (defBody i__law_lots.st) (defScope i__law_lots.st) .none kV doc pm an cdv ct) ⟨us, []⟩ = pure (i__law_lots.ps.zip us) := match us, h with | [_, _, _], _ => rfl
theorem b__law_all_of (kV doc pm : Value) (an : Option Addr) (cdv ct : Value) (us : List Value) (h : us.length = i__law_all_of.ps.length) : bindArgs (PySem.W.fnOf i__law_all_of.x i__law_all_of.x (defArgs i__law_all_of.st) (defBody i__law_all_of.st) (defScope i__law_all_of.st) .none kV doc pm an cdv ct) ⟨us, []⟩ = pure (i__law_all_of.ps.zip us) := match us, h with | [_, _], _ => rfl
theorem b__law_right (kV doc pm : Value) (an : Option Addr) (cdv ct : Value) (us : List Value) (h : us.length = i__law_right.ps.length) : bindArgs (PySem.W.fnOf i__law_right.x i__law_right.x (defArgs i__law_right.st) (defBody i__law_right.st) (defScope i__law_right.st) .none kV doc pm an cdv ct) ⟨us, []⟩ = pure (i__law_right.ps.zip us) := match us, h with | [_, _], _ => rfl
theorem b_law (kV doc pm : Value) (an : Option Addr) (cdv ct : Value) (us : List Value) (h : us.length = i_law.ps.length) : bindArgs (PySem.W.fnOf i_law.x i_law.x (defArgs i_law.st) (defBody i_law.st) (defScope i_law.st) .none kV doc pm an cdv ct) ⟨us, []⟩ = pure (i_law.ps.zip us) := match us, h with | [_], _ => rfl
theorem b__law_met : ParB i__law_met.x i__law_met.st := fun kV doc pm an cdv ct u => ⟨Str.ofString "call", rfl, rfl⟩
theorem b_Land (kV doc pm : Value) (an : Option Addr) (cdv ct : Value) (us : List Value) (h : us.length = i_Land.ps.length) : bindArgs (PySem.W.fnOf "__init__" (i_Land.x ++ (".__init__" : Str)) (defArgs i_Land.st) (defBody i_Land.st) (defScope i_Land.st) .none kV doc pm an cdv ct) ⟨us, []⟩ = pure (i_Land.ps.zip us) := match us, h with | [_, _, _, _, _, _], _ => rfl
theorem b_Bounds (kV doc pm : Value) (an : Option Addr) (cdv ct : Value) (us : List Value) (h : us.length = i_Bounds.ps.length) : bindArgs (PySem.W.fnOf "__init__" (i_Bounds.x ++ (".__init__" : Str)) (defArgs i_Bounds.st) (defBody i_Bounds.st) (defScope i_Bounds.st) .none kV doc pm an cdv ct) ⟨us, []⟩ = pure (i_Bounds.ps.zip us) := match us, h with | [_, _, _], _ => rfl
theorem b_Land_parts (kV doc pm : Value) (an : Option Addr) (cdv ct : Value) (us : List Value) (h : us.length = i_Land_parts.i.ps.length) : bindArgs (PySem.W.fnOf i_Land_parts.m i_Land_parts.i.x (defArgs i_Land_parts.i.st) (defBody i_Land_parts.i.st) (defScope i_Land_parts.i.st) .none kV doc pm an cdv ct) ⟨us, []⟩ = pure (i_Land_parts.i.ps.zip us) := match us, h with | [_], _ => rfl
theorem b_Bounds_told (kV doc pm : Value) (an : Option Addr) (cdv ct : Value) (us : List Value) (h : us.length = i_Bounds_told.i.ps.length) : bindArgs (PySem.W.fnOf i_Bounds_told.m i_Bounds_told.i.x (defArgs i_Bounds_told.i.st) (defBody i_Bounds_told.i.st) (defScope i_Bounds_told.i.st) .none kV doc pm an cdv ct) ⟨us, []⟩ = pure (i_Bounds_told.i.ps.zip us) := match us, h with | [_], _ => rfl
theorem b_Bounds_put (kV doc pm : Value) (an : Option Addr) (cdv ct : Value) (us : List Value) (h : us.length = i_Bounds_put.i.ps.length) : bindArgs (PySem.W.fnOf i_Bounds_put.m i_Bounds_put.i.x (defArgs i_Bounds_put.i.st) (defBody i_Bounds_put.i.st) (defScope i_Bounds_put.i.st) .none kV doc pm an cdv ct) ⟨us, []⟩ = pure (i_Bounds_put.i.ps.zip us) := match us, h with | [_, _, _, _], _ => rfl
theorem b_Bounds_raise_caught (kV doc pm : Value) (an : Option Addr) (cdv ct : Value) (us : List Value) (h : us.length = i_Bounds_raise_caught.i.ps.length) : bindArgs (PySem.W.fnOf i_Bounds_raise_caught.m i_Bounds_raise_caught.i.x (defArgs i_Bounds_raise_caught.i.st) (defBody i_Bounds_raise_caught.i.st) (defScope i_Bounds_raise_caught.i.st) .none kV doc pm an cdv ct) ⟨us, []⟩ = pure (i_Bounds_raise_caught.i.ps.zip us) := match us, h with | [_, _, _], _ => rfl
theorem b_Bounds_raise_out (kV doc pm : Value) (an : Option Addr) (cdv ct : Value) (us : List Value) (h : us.length = i_Bounds_raise_out.i.ps.length) : bindArgs (PySem.W.fnOf i_Bounds_raise_out.m i_Bounds_raise_out.i.x (defArgs i_Bounds_raise_out.i.st) (defBody i_Bounds_raise_out.i.st) (defScope i_Bounds_raise_out.i.st) .none kV doc pm an cdv ct) ⟨us, []⟩ = pure (i_Bounds_raise_out.i.ps.zip us) := match us, h with | [_, _, _], _ => rfl
theorem b_Bounds_cause (kV doc pm : Value) (an : Option Addr) (cdv ct : Value) (us : List Value) (h : us.length = i_Bounds_cause.i.ps.length) : bindArgs (PySem.W.fnOf i_Bounds_cause.m i_Bounds_cause.i.x (defArgs i_Bounds_cause.i.st) (defBody i_Bounds_cause.i.st) (defScope i_Bounds_cause.i.st) .none kV doc pm an cdv ct) ⟨us, []⟩ = pure (i_Bounds_cause.i.ps.zip us) := match us, h with | [_, _], _ => rfl
theorem b_Bounds_must (kV doc pm : Value) (an : Option Addr) (cdv ct : Value) (us : List Value) (h : us.length = i_Bounds_must.i.ps.length) : bindArgs (PySem.W.fnOf i_Bounds_must.m i_Bounds_must.i.x (defArgs i_Bounds_must.i.st) (defBody i_Bounds_must.i.st) (defScope i_Bounds_must.i.st) .none kV doc pm an cdv ct) ⟨us, []⟩ = pure (i_Bounds_must.i.ps.zip us) := match us, h with | [_, _], _ => rfl
theorem b_Bounds_burn (kV doc pm : Value) (an : Option Addr) (cdv ct : Value) (us : List Value) (h : us.length = i_Bounds_burn.i.ps.length) : bindArgs (PySem.W.fnOf i_Bounds_burn.m i_Bounds_burn.i.x (defArgs i_Bounds_burn.i.st) (defBody i_Bounds_burn.i.st) (defScope i_Bounds_burn.i.st) .none kV doc pm an cdv ct) ⟨us, []⟩ = pure (i_Bounds_burn.i.ps.zip us) := match us, h with | [_, _], _ => rfl
theorem b_Bounds_back (kV doc pm : Value) (an : Option Addr) (cdv ct : Value) (us : List Value) (h : us.length = i_Bounds_back.i.ps.length) : bindArgs (PySem.W.fnOf i_Bounds_back.m i_Bounds_back.i.x (defArgs i_Bounds_back.i.st) (defBody i_Bounds_back.i.st) (defScope i_Bounds_back.i.st) .none kV doc pm an cdv ct) ⟨us, []⟩ = pure (i_Bounds_back.i.ps.zip us) := match us, h with | [_, _], _ => rfl
theorem b_Bounds_are_behind (kV doc pm : Value) (an : Option Addr) (cdv ct : Value) (us : List Value) (h : us.length = i_Bounds_are_behind.i.ps.length) : bindArgs (PySem.W.fnOf i_Bounds_are_behind.m i_Bounds_are_behind.i.x (defArgs i_Bounds_are_behind.i.st) (defBody i_Bounds_are_behind.i.st) (defScope i_Bounds_are_behind.i.st) .none kV doc pm an cdv ct) ⟨us, []⟩ = pure (i_Bounds_are_behind.i.ps.zip us) := match us, h with | [_, _], _ => rfl
theorem b_Bounds_report (kV doc pm : Value) (an : Option Addr) (cdv ct : Value) (us : List Value) (h : us.length = i_Bounds_report.i.ps.length) : bindArgs (PySem.W.fnOf i_Bounds_report.m i_Bounds_report.i.x (defArgs i_Bounds_report.i.st) (defBody i_Bounds_report.i.st) (defScope i_Bounds_report.i.st) .none kV doc pm an cdv ct) ⟨us, []⟩ = pure (i_Bounds_report.i.ps.zip us) := match us, h with | [_, _], _ => rfl
theorem b_Bounds_two (kV doc pm : Value) (an : Option Addr) (cdv ct : Value) (us : List Value) (h : us.length = i_Bounds_two.i.ps.length) : bindArgs (PySem.W.fnOf i_Bounds_two.m i_Bounds_two.i.x (defArgs i_Bounds_two.i.st) (defBody i_Bounds_two.i.st) (defScope i_Bounds_two.i.st) .none kV doc pm an cdv ct) ⟨us, []⟩ = pure (i_Bounds_two.i.ps.zip us) := match us, h with | [_, _, _, _, _], _ => rfl
theorem b_Bounds_apply (kV doc pm : Value) (an : Option Addr) (cdv ct : Value) (us : List Value) (h : us.length = i_Bounds_apply.i.ps.length) : bindArgs (PySem.W.fnOf i_Bounds_apply.m i_Bounds_apply.i.x (defArgs i_Bounds_apply.i.st) (defBody i_Bounds_apply.i.st) (defScope i_Bounds_apply.i.st) .none kV doc pm an cdv ct) ⟨us, []⟩ = pure (i_Bounds_apply.i.ps.zip us) := match us, h with | [_, _], _ => rfl
theorem b_Bounds_is_broken (kV doc pm : Value) (an : Option Addr) (cdv ct : Value) (us : List Value) (h : us.length = i_Bounds_is_broken.i.ps.length) : bindArgs (PySem.W.fnOf i_Bounds_is_broken.m i_Bounds_is_broken.i.x (defArgs i_Bounds_is_broken.i.st) (defBody i_Bounds_is_broken.i.st) (defScope i_Bounds_is_broken.i.st) .none kV doc pm an cdv ct) ⟨us, []⟩ = pure (i_Bounds_is_broken.i.ps.zip us) := match us, h with | [_, _], _ => rfl
theorem b_first_odd : ParN i_first_odd.x i_first_odd.st := fun kV doc pm an cdv ct us h => match us, h with | [_, _], _ => rfl
theorem lw_binds : lw.Binds := by
  refine ⟨?_, ?_, ?_, ?_, ?_, ?_⟩
  · intro t ht
    have ht : t ∈ [i_is_whole, i_is_within, i_before, i_behind, i_moved, i_goes_ahead, i_is_row_of, i_is_burn, i_is_way, i_is_origin, i_land_fault, i_require_land, i_is_cell_of, i_is_hour_of, i_is_caught_row, i_is_out_row, i_is_draft_of, i_is_burn_kept, i_can_come_by, i_is_caused, i_due_hour, i_is_must_kept, i_faults_in, i_is_fitting_in, i_is_pair_of, i_are_pairs_of, i_is_report_of, i_are_reports_of, i_is_by, i_is_some_burnt, i_do_two_hold, i_does_hold_in, i_do_hold_in, i_require_reports, i_rules_of, i_ended, i_least_in, i_row_in, i_is_rule_of, i_are_rules_of, i_led_by, i_is_row_in, i_of_lot, i_is_true_lot, i_struck, i_others_of, i_is_some_lie, i_is_some_truth, i_all_lots, i_are_within, i_lies_in, i_truths_of, i_left_out, i_most_apart, i_require_told, i_is_lot_of, i_require_lot, i_require_few, i_known_lies, i_can_be_true, i_true_paper, i_is_true_paper, i_lie_within, i_is_lie, i_is_truth, i_lie_paper, i_is_lie_paper, i_all_lies, i_all_truths, i_suspects, i_guilty, i_fewest_false, i_truth_with, i_apart_lies, i__law_bag, i__law_draw, i__law_one_of, i__law_mixed, i__law_lots, i__law_all_of, i__law_right, i_law] := ht
    simp only [List.mem_cons, List.not_mem_nil, or_false] at ht
    rcases ht with rfl | rfl | rfl | rfl | rfl | rfl | rfl | rfl | rfl | rfl | rfl | rfl | rfl | rfl | rfl | rfl | rfl | rfl | rfl | rfl | rfl | rfl | rfl | rfl | rfl | rfl | rfl | rfl | rfl | rfl | rfl | rfl | rfl | rfl | rfl | rfl | rfl | rfl | rfl | rfl | rfl | rfl | rfl | rfl | rfl | rfl | rfl | rfl | rfl | rfl | rfl | rfl | rfl | rfl | rfl | rfl | rfl | rfl | rfl | rfl | rfl | rfl | rfl | rfl | rfl | rfl | rfl | rfl | rfl | rfl | rfl | rfl | rfl | rfl | rfl | rfl | rfl | rfl | rfl | rfl | rfl | rfl
    · exact b_is_whole
    · exact b_is_within
    · exact b_before
    · exact b_behind
    · exact b_moved
    · exact b_goes_ahead
    · exact b_is_row_of
    · exact b_is_burn
    · exact b_is_way
    · exact b_is_origin
    · exact b_land_fault
    · exact b_require_land
    · exact b_is_cell_of
    · exact b_is_hour_of
    · exact b_is_caught_row
    · exact b_is_out_row
    · exact b_is_draft_of
    · exact b_is_burn_kept
    · exact b_can_come_by
    · exact b_is_caused
    · exact b_due_hour
    · exact b_is_must_kept
    · exact b_faults_in
    · exact b_is_fitting_in
    · exact b_is_pair_of
    · exact b_are_pairs_of
    · exact b_is_report_of
    · exact b_are_reports_of
    · exact b_is_by
    · exact b_is_some_burnt
    · exact b_do_two_hold
    · exact b_does_hold_in
    · exact b_do_hold_in
    · exact b_require_reports
    · exact b_rules_of
    · exact b_ended
    · exact b_least_in
    · exact b_row_in
    · exact b_is_rule_of
    · exact b_are_rules_of
    · exact b_led_by
    · exact b_is_row_in
    · exact b_of_lot
    · exact b_is_true_lot
    · exact b_struck
    · exact b_others_of
    · exact b_is_some_lie
    · exact b_is_some_truth
    · exact b_all_lots
    · exact b_are_within
    · exact b_lies_in
    · exact b_truths_of
    · exact b_left_out
    · exact b_most_apart
    · exact b_require_told
    · exact b_is_lot_of
    · exact b_require_lot
    · exact b_require_few
    · exact b_known_lies
    · exact b_can_be_true
    · exact b_true_paper
    · exact b_is_true_paper
    · exact b_lie_within
    · exact b_is_lie
    · exact b_is_truth
    · exact b_lie_paper
    · exact b_is_lie_paper
    · exact b_all_lies
    · exact b_all_truths
    · exact b_suspects
    · exact b_guilty
    · exact b_fewest_false
    · exact b_truth_with
    · exact b_apart_lies
    · exact b__law_bag
    · exact b__law_draw
    · exact b__law_one_of
    · exact b__law_mixed
    · exact b__law_lots
    · exact b__law_all_of
    · exact b__law_right
    · exact b_law
  · intro t ht
    have ht : t ∈ [i__law_met] := ht
    simp only [List.mem_cons, List.not_mem_nil, or_false] at ht
    rcases ht with rfl
    · exact b__law_met
  · intro t ht
    have ht : t ∈ [i_Land] := ht
    simp only [List.mem_cons, List.not_mem_nil, or_false] at ht
    rcases ht with rfl
    · exact b_Land
  · intro t ht
    have ht : t ∈ [i_first_odd] := ht
    simp only [List.mem_cons, List.not_mem_nil, or_false] at ht
    rcases ht with rfl
    · exact b_first_odd
  · intro t ht
    have ht : t ∈ [i_Land_parts, i_Bounds_told, i_Bounds_put, i_Bounds_raise_caught, i_Bounds_raise_out, i_Bounds_cause, i_Bounds_must, i_Bounds_burn, i_Bounds_back, i_Bounds_are_behind, i_Bounds_report, i_Bounds_two, i_Bounds_apply, i_Bounds_is_broken] := ht
    simp only [List.mem_cons, List.not_mem_nil, or_false] at ht
    rcases ht with rfl | rfl | rfl | rfl | rfl | rfl | rfl | rfl | rfl | rfl | rfl | rfl | rfl | rfl
    · exact b_Land_parts
    · exact b_Bounds_told
    · exact b_Bounds_put
    · exact b_Bounds_raise_caught
    · exact b_Bounds_raise_out
    · exact b_Bounds_cause
    · exact b_Bounds_must
    · exact b_Bounds_burn
    · exact b_Bounds_back
    · exact b_Bounds_are_behind
    · exact b_Bounds_report
    · exact b_Bounds_two
    · exact b_Bounds_apply
    · exact b_Bounds_is_broken
  · intro t ht
    have ht : t ∈ [i_Bounds] := ht
    simp only [List.mem_cons, List.not_mem_nil, or_false] at ht
    rcases ht with rfl
    · exact b_Bounds
abbrev Rr : PySem.W.OpenRow := PySem.W.OpenLaw.row PySem.Challenge.rw_leastburn_k48_errors_of_lies
theorem runC {S α β γ : Type _} {e : Option S} {f : S → α} {g : S → β} {h : S → γ} {x : α} {y : β} {z : γ} (a : e.map h = some z) (b : e.map (fun s => (f s, g s)) = some (x, y)) : e.map (fun s => (f s, g s, h s)) = some (x, y, z) := by
  cases e with
  | none => cases b
  | some s =>
    simp only [Option.map_some, Option.some.injEq, Prod.mk.injEq] at a b ⊢
    exact ⟨b.1, b.2, a⟩
open PySem.W PySem.Calls HandSHeadRun in
theorem run1 (w : World) : ∀ os : OsState, (endF (stepQ (denQ tabQ) Rr.prog w) 20000 Rr.prog w os).map (fun s => lw.more (Lw.fr 5 s)) = some true := by
  intro os
  kernel_rfl
open PySem.W PySem.Calls HandSHeadRun in
theorem run2 (w : World) : ∀ os : OsState, (endF (stepQ (denQ tabQ) Rr.prog w) 20000 Rr.prog w os).map (fun s => tabsE (getT s) (Lw.fr 5 s)) = some true := by
  intro os
  kernel_rfl
open PySem.W PySem.Calls HandSHeadRun in
theorem run3 (w : World) : ∀ os : OsState, (endF (stepQ (denQ tabQ) Rr.prog w) 20000 Rr.prog w os).map (fun s => lw.fa.all fun f => f.ok (Lw.fr 5 s)) = some true := by
  intro os
  kernel_rfl
open PySem.W PySem.Calls HandSHeadRun in
theorem run4 (w : World) : ∀ os : OsState, (endF (stepQ (denQ tabQ) Rr.prog w) 20000 Rr.prog w os).map (fun s => lw.fn.all fun d => d.ok (Lw.fr 5 s)) = some true := by
  intro os
  kernel_rfl
open PySem.W PySem.Calls HandSHeadRun in
theorem run5 (w : World) : ∀ os : OsState, (endF (stepQ (denQ tabQ) Rr.prog w) 20000 Rr.prog w os).map (fun s => lw.fn.map fun d => He.fnW (Lw.fr 5 s) d.at_) = some (lw.fn.map He.DefD.val) := by
  intro os
  kernel_rfl
open PySem.W PySem.Calls HandSHeadRun in
theorem run6 (w : World) : ∀ os : OsState, (endF (stepQ (denQ tabQ) Rr.prog w) 20000 Rr.prog w os).map (fun s => lw.exs.map (fnX (Lw.fr 5 s))) = some (lw.exs.map ExI.val) := by
  intro os
  kernel_rfl
open PySem.W PySem.Calls HandSHeadRun in
theorem run7 (w : World) : ∀ os : OsState, (endF (stepQ (denQ tabQ) Rr.prog w) 20000 Rr.prog w os).map (fun s => lw.ck.gdn.map (gdH (Lw.fr 5 s))) = some (lw.gdW w) := by
  intro os
  kernel_rfl
open PySem.W PySem.Calls HandSHeadRun in
theorem runA (w : World) : ∀ os : OsState, (endF (stepQ (denQ tabQ) Rr.prog w) 20000 Rr.prog w os).map (fun s => lw.ob 5 s) = some ((lw.hook 5).val w) := fun os => Lw.ob_of lw 5 w (run1 w os) (run2 w os) (run3 w os) (run4 w os) (run5 w os) (run6 w os) (run7 w os)
open PySem.W PySem.Calls HandSHeadRun in
theorem runB (w : World) : ∀ os : OsState, (endF (stepQ (denQ tabQ) Rr.prog w) 20000 Rr.prog w os).map (fun s => (looksF Rr.prog (boot_heap w.params) s.abs, seenQ (PySem.W.view Rr.prog [132]) loose (importedModules Rr.prog.main.body) (fun s => xlAt (PySem.W.view Rr.prog [132]) [] s && recOk Rr.toRowW.records s) s.abs)) = some (true, openGood (PySem.W.view Rr.prog [132]) loose) := by
  intro os
  kernel_rfl
theorem run (w : World) : HandSHeadRun.RunEq Rr (PySem.W.view Rr.prog [132]) (lw.hook 5) (lw.ob 5) 20000 loose w := by
  intro os
  exact runC (runA w os) (runB w os)
end Law
set_option linter.all false
set_option maxRecDepth 100000
/-! Zp0: plain lemmas about the core's values: what repr and == may be asked of; calls. -/
namespace Zw
open PySem
/-! ### sizes -/
mutual
/-- no instance within, ints of at most 1900 bits, good texts -/
def D.Fine : D → Prop
  | .non => True
  | .bl _ => True
  | .int i => i.natAbs < 2 ^ 1900
  | .str s => PyData.strOk s = true
  | .tup xs => D.Fines xs
  | .lst xs => D.Fines xs
  | .ins _ _ => False
  | .dic => False
  | .rng _ _ => False
  | .dct _ _ => False
def D.Fines : List D → Prop
  | [] => True
  | x :: xs => x.Fine ∧ D.Fines xs
end
mutual
/-- no shorter than the value's text -/
def D.wt : D → Nat
  | .non => 4
  | .bl _ => 5
  | .int _ => 1921
  | .str s => 10 * s.length + 2
  | .tup xs => 3 + D.wts xs
  | .lst xs => 3 + D.wts xs
  | .ins _ _ => 0
  | .dic => 0
  | .rng _ _ => 0
  | .dct _ _ => 0
def D.wts : List D → Nat
  | [] => 0
  | x :: xs => x.wt + 2 + D.wts xs
end
mutual
def D.dep : D → Nat
  | .tup xs => D.deps xs + 1
  | .lst xs => D.deps xs + 1
  | _ => 0
def D.deps : List D → Nat
  | [] => 0
  | x :: xs => max x.dep (D.deps xs)
end
mutual
theorem fine_plain : ∀ (d : D), d.Fine → d.plain = true
  | .non, _ => rfl
  | .bl _, _ => rfl
  | .int _, _ => rfl
  | .str _, _ => rfl
  | .tup xs, h => by rw [D.plain]; exact fines_plain xs (by rw [D.Fine] at h; exact h)
  | .lst xs, h => by rw [D.plain]; exact fines_plain xs (by rw [D.Fine] at h; exact h)
  | .ins _ _, h => by rw [D.Fine] at h; exact h.elim
  | .dic, h => by rw [D.Fine] at h; exact h.elim
  | .rng _ _, h => by rw [D.Fine] at h; exact h.elim
  | .dct _ _, h => by rw [D.Fine] at h; exact h.elim
theorem fines_plain : ∀ (xs : List D), D.Fines xs → D.plains xs = true
  | [], _ => rfl
  | x :: xs, h => by
    rw [D.Fines] at h
    rw [D.plains, fine_plain x h.1, fines_plain xs h.2]
    rfl
end
mutual
theorem fine_lay : ∀ (d : D), d.Fine → d.py.canLay0 = true
  | .non, _ => rfl
  | .bl _, _ => rfl
  | .int _, _ => rfl
  | .str s, h => by rw [D.Fine] at h; rw [D.py, PyData.canLay0]; exact h
  | .tup xs, h => by rw [D.py, PyData.canLay0]; exact fines_lay xs (by rw [D.Fine] at h; exact h)
  | .lst xs, h => by rw [D.py, PyData.canLay0]; exact fines_lay xs (by rw [D.Fine] at h; exact h)
  | .ins _ _, h => by rw [D.Fine] at h; exact h.elim
  | .dic, h => by rw [D.Fine] at h; exact h.elim
  | .rng _ _, h => by rw [D.Fine] at h; exact h.elim
  | .dct _ _, h => by rw [D.Fine] at h; exact h.elim
theorem fines_lay : ∀ (xs : List D), D.Fines xs → PyData.canLayAll0 (D.pys xs) = true
  | [], _ => rfl
  | x :: xs, h => by
    rw [D.Fines] at h
    rw [D.pys, PyData.canLayAll0, fine_lay x h.1, fines_lay xs h.2]
    rfl
end
theorem log_small {n k : Nat} (hk : 0 < k) (h : n < 2 ^ k) : n.log2 < k := by
  by_cases e : n = 0
  · subst e; simpa using hk
  · exact (Nat.log2_lt e).mpr h
mutual
theorem fine_showable : ∀ (d : D), d.Fine → d.py.showable = true
  | .non, _ => rfl
  | .bl _, _ => rfl
  | .int i, h => by
    rw [D.Fine] at h
    rw [D.py, PyData.showable]
    exact decide_eq_true (Nat.lt_trans (log_small (k := 1900) (by decide) h) (by decide))
  | .str s, h => rfl
  | .tup xs, h => by rw [D.py, PyData.showable]; exact fines_showable xs (by rw [D.Fine] at h; exact h)
  | .lst xs, h => by rw [D.py, PyData.showable]; exact fines_showable xs (by rw [D.Fine] at h; exact h)
  | .ins _ _, h => by rw [D.Fine] at h; exact h.elim
  | .dic, h => by rw [D.Fine] at h; exact h.elim
  | .rng _ _, h => by rw [D.Fine] at h; exact h.elim
  | .dct _ _, h => by rw [D.Fine] at h; exact h.elim
theorem fines_showable : ∀ (xs : List D), D.Fines xs → PyData.showableAll (D.pys xs) = true
  | [], _ => rfl
  | x :: xs, h => by
    rw [D.Fines] at h
    rw [D.pys, PyData.showableAll, fine_showable x h.1, fines_showable xs h.2]
    rfl
end
mutual
theorem dep_eq : ∀ (d : D), d.py.depth = d.dep
  | .non => rfl
  | .bl _ => rfl
  | .int _ => rfl
  | .str _ => rfl
  | .tup xs => by rw [D.py, PyData.depth, D.dep, deps_eq xs]
  | .lst xs => by rw [D.py, PyData.depth, D.dep, deps_eq xs]
  | .ins _ _ => rfl
  | .dic => rfl
  | .rng _ _ => rfl
  | .dct _ _ => rfl
theorem deps_eq : ∀ (xs : List D), PyData.depthAll (D.pys xs) = D.deps xs
  | [] => rfl
  | x :: xs => by rw [D.pys, PyData.depthAll, D.deps, dep_eq x, deps_eq xs]
end
theorem eqOk_of {a b : D} (ha : a.Fine) (hb : b.Fine) (da : a.dep ≤ 64) (db : b.dep ≤ 64) : eqOk a b = true := by
  unfold eqOk SeqAt.shaped
  rw [fine_plain a ha, fine_plain b hb, fine_lay a ha, fine_lay b hb, dep_eq, dep_eq, decide_eq_true da, decide_eq_true db]
  simp
theorem textFrom_le : ∀ (ts : List Str) (k : Nat) (acc : Str), (textFrom k acc ts).length ≤ acc.length + (ts.map fun t => t.length + 2).sum
  | [], _, _ => Nat.le_refl _
  | t :: ts, k, acc => by
    rw [textFrom]
    refine Nat.le_trans (textFrom_le ts _ _) ?_
    rw [strLen_append, strLen_append, List.map_cons, List.sum_cons]
    have : (Str.ofString (if k > 0 then ", " else "")).length ≤ 2 := by
      split <;> decide
    omega
theorem listText_le (ts : List Str) : (listText ts).length ≤ 2 + (ts.map fun t => t.length + 2).sum := by
  unfold listText
  rw [strLen_append]
  have h1 := textFrom_le ts 0 "["
  have h2 : ("[" : Str).length = 1 := rfl
  have h3 : ("]" : Str).length = 1 := rfl
  omega
theorem tupleText_le (ts : List Str) : (tupleText ts).length ≤ 3 + (ts.map fun t => t.length + 2).sum := by
  unfold tupleText
  rw [strLen_append, strLen_append]
  have h1 : (Str.join ", " ts).length ≤ (ts.map fun t => t.length + 2).sum := by
    by_cases e : ts = []
    · subst e; decide
    · have := join_length_add ts e
      unfold piled at this
      omega
  have h2 : ("(" : Str).length = 1 := rfl
  have h3 : (Str.ofString (if ts.length == 1 then ",)" else ")")).length ≤ 2 := by split <;> decide
  omega
mutual
theorem shown_le : ∀ (d : D), d.Fine → d.py.shown.length ≤ d.wt
  | .non, _ => by decide
  | .bl b, _ => by cases b <;> decide
  | .int i, h => by
    rw [D.Fine] at h
    rw [D.py, PyData.shown, D.wt]
    have := int_text_length_le (a := i) (k := 1900) (by decide) (log_small (by decide) h)
    show (Str.ofString (toString i)).length ≤ 1921
    rw [Str.ofString_eq_toList]
    show ((toString i).toList.map Char.toNat).toArray.size ≤ 1921
    simp only [List.size_toArray, List.length_map, String.length_toList]
    omega
  | .str s, h => by
    rw [D.Fine] at h
    rw [D.py, PyData.shown, D.wt]
    refine StrLaws.reprText_len s fun c hc => ?_
    have h2 : s.cps.all (· < 0x110000) = true := h
    rw [← Array.all_toList] at h2
    have := List.all_eq_true.mp h2 c hc
    have := of_decide_eq_true this
    omega
  | .tup xs, h => by
    rw [D.Fine] at h
    rw [D.py, PyData.shown, D.wt]
    have := tupleText_le (PyData.shownAll (D.pys xs))
    have := showns_le xs h
    omega
  | .lst xs, h => by
    rw [D.Fine] at h
    rw [D.py, PyData.shown, D.wt]
    have := listText_le (PyData.shownAll (D.pys xs))
    have := showns_le xs h
    omega
  | .ins _ _, h => by rw [D.Fine] at h; exact h.elim
  | .dic, h => by rw [D.Fine] at h; exact h.elim
  | .rng _ _, h => by rw [D.Fine] at h; exact h.elim
  | .dct _ _, h => by rw [D.Fine] at h; exact h.elim
theorem showns_le : ∀ (xs : List D), D.Fines xs → ((PyData.shownAll (D.pys xs)).map fun t => t.length + 2).sum ≤ D.wts xs
  | [], _ => Nat.le_refl _
  | x :: xs, h => by
    rw [D.Fines] at h
    rw [D.pys, PyData.shownAll, List.map_cons, List.sum_cons, D.wts]
    have := shown_le x h.1
    have := showns_le xs h.2
    omega
end
theorem reprOk_of {d : D} (h : d.Fine) (hw : d.wt ≤ line) (hd : d.dep ≤ 64) : reprOk d = true := by
  unfold reprOk
  rw [fine_plain d h, fine_showable d h, dep_eq, decide_eq_true hd, decide_eq_true (Nat.le_trans (shown_le d h) hw)]
  rfl
/-! ### equality -/
theorem eqB_int (i j : Int) : eqB (.int i) (.int j) = (i == j) := by unfold eqB; rw [D.py, D.py, PyData.eqv]
theorem eqB_str (i j : Str) : eqB (.str i) (.str j) = (i == j) := by unfold eqB; rw [D.py, D.py, PyData.eqv]
end Zw
set_option linter.all false
set_option maxRecDepth 100000
/-! Zp1: plain lemmas: calls, products, walks. -/
namespace Zw
open PySem
theorem cs_t1 {F : List B → Store → R B} {a r : D} (h : F [.t a] [] = .ok (.t r) []) (s : Store) : callS F [.t a] s = .ok (.t r) s := by
  simp [callS, List.filterMap_cons, B.ref?, getAll, renum, h, B.give, putAll]
theorem cs_t2 {F : List B → Store → R B} {a b r : D} (h : F [.t a, .t b] [] = .ok (.t r) []) (s : Store) : callS F [.t a, .t b] s = .ok (.t r) s := by
  simp [callS, List.filterMap_cons, B.ref?, getAll, renum, h, B.give, putAll]
theorem cs_t3 {F : List B → Store → R B} {a b c r : D} (h : F [.t a, .t b, .t c] [] = .ok (.t r) []) (s : Store) : callS F [.t a, .t b, .t c] s = .ok (.t r) s := by
  simp [callS, List.filterMap_cons, B.ref?, getAll, renum, h, B.give, putAll]
theorem cs_r1 {F : List B → Store → R B} {r : D} {o o' : List D} (h : F [.r 0] [.lst o] = .ok (.t r) [.lst o']) : callS F [.r 0] [.lst o] = .ok (.t r) [.lst o'] := by
  simp [callS, List.filterMap_cons, B.ref?, getAll, O.lst?, O.isL, renum, h, B.give, putAll]
theorem cs_r2 {F : List B → Store → R B} {a r : D} {o o' : List D} (h : F [.r 0, .t a] [.lst o] = .ok (.t r) [.lst o']) : callS F [.r 0, .t a] [.lst o] = .ok (.t r) [.lst o'] := by
  simp [callS, List.filterMap_cons, B.ref?, getAll, O.lst?, O.isL, renum, h, B.give, putAll]
theorem mulOk_of {i j : Int} (hi : i.natAbs < 2 ^ 4000) (hj : j.natAbs < 2 ^ 4000) : mulOk i j = true := by
  unfold mulOk
  have h1 := log_small (k := 4000) (by decide) hi
  have h2 := log_small (k := 4000) (by decide) hj
  exact decide_eq_true (by omega)
/-- a comprehension whose turns answer by g -/
theorem compL_map {f : D → Store → R (Option D)} {g : D → Option D} : ∀ (xs acc : List D) (s : Store), (∀ x ∈ xs, f x s = .ok (g x) s) → acc.length + xs.length ≤ line → compL f xs acc s = .ok (acc ++ xs.filterMap g) s
  | [], acc, s, _, _ => by simp [compL]
  | x :: xs, acc, s, h, hl => by
    rw [compL, h x List.mem_cons_self]
    rw [List.length_cons] at hl
    cases q : g x with
    | none =>
      simp only
      rw [compL_map xs acc s (fun y hy => h y (List.mem_cons_of_mem _ hy)) (by omega)]
      simp [List.filterMap_cons, q]
    | some y =>
      simp only
      rw [if_pos (by omega), compL_map xs (acc ++ [y]) s (fun y hy => h y (List.mem_cons_of_mem _ hy)) (by simp; omega)]
      simp [List.filterMap_cons, q]
theorem ev_comp_of {G : Gx} {kind : Nat} {its : List CE} {tg : Tg} {own : List Nat} {conds : List CE} {elt : CE} {ρ : Zw.Env} {s s1 : Store} {bs : List B} {xs : List D} {g : D → Option D} (h1 : evl G its ρ s = .ok bs s1) (h2 : (seens bs).bind (walk kind) = some xs)
    (h3 : ∀ x ∈ xs, turnC G tg own conds elt ρ x s1 = .ok (g x) s1) (hl : xs.length ≤ line) : ev G (.comp kind its tg own conds elt) ρ s = .ok (.own (.lst (xs.filterMap g))) s1 := by
  have h4 := compL_map (f := turnC G tg own conds elt ρ) xs [] s1 h3 (by simpa using hl)
  have e : ev G (.comp kind its tg own conds elt) ρ s = (evl G its ρ s).bind fun bs s => match (seens bs).bind (walk kind) with
      | none => .bad
      | some xs => (compL (turnC G tg own conds elt ρ) xs [] s).bind fun ys s => .ok (.own (.lst ys)) s := by rw [ev]; rfl
  rw [e, h1]
  show (match (seens bs).bind (walk kind) with
      | none => R.bad
      | some xs => (compL (turnC G tg own conds elt ρ) xs [] s1).bind fun ys s => R.ok (B.own (.lst ys)) s) = _
  rw [h2]
  show (compL (turnC G tg own conds elt ρ) xs [] s1).bind (fun ys s => R.ok (B.own (.lst ys)) s) = _
  rw [h4]
  rfl
theorem exec_for_of {G : Gx} {cs : Bool} {kind : Nat} {its : List CE} {tg : Tg} {body : List CS} {ρ : Zw.Env} {s s1 : Store} {bs : List B} {xs : List D} (h1 : evl G its ρ s = .ok bs s1) (h2 : (frzs bs).bind (walk kind) = some xs) :
    Zw.exec G (.for_ cs kind its tg body) ρ s = forL cs s1.length (fun x ρ s => match bindT tg x ρ with
          | none => .bad
          | some ρ => Zw.execs G body ρ s) xs ρ s1 := by
  rw [Zw.exec, h1]
  show (match (frzs bs).bind (walk kind) with
      | none => RS.bad
      | some xs => forL cs s1.length (fun x ρ s => match bindT tg x ρ with
          | none => .bad
          | some ρ => Zw.execs G body ρ s) xs ρ s1) = _
  rw [h2]
theorem eqOk_int (i j : Int) : eqOk (.int i) (.int j) = true := rfl
theorem eqOk_non : eqOk .non .non = true := rfl
theorem len2 {α : Type} (r : List α) : ((r.length : Int) + 1 + 1 + 1 == 2) = false := by simp; omega
theorem len3 {α : Type} (r : List α) : ((r.length : Int) + 1 + 1 + 1 + 1 == 3) = false := by simp; omega
theorem eqB_pt (a b c d : Int) : eqB (.tup [.int a, .int b]) (.tup [.int c, .int d]) = (a == c && b == d) := by simp [eqB, D.py, D.pys, PyData.eqv, PyData.eqvAll]
theorem eqOk_pt (a b c d : Int) : eqOk (.tup [.int a, .int b]) (.tup [.int c, .int d]) = true := rfl
theorem eqB_nil (xs : List D) : eqB (.lst xs) (.lst []) = xs.isEmpty := by cases xs <;> simp [eqB, D.py, D.pys, PyData.eqv, PyData.eqvAll]
theorem eqOk_nil {xs : List D} (h : D.Fines xs) (hd : D.deps xs ≤ 63) : eqOk (.lst xs) (.lst []) = true := eqOk_of (by rw [D.Fine]; exact h) (by rw [D.Fine, D.Fines]; trivial) (by rw [D.dep]; omega) (by decide)
theorem cls (x : D) : (∃ i, x = .int i) ∨ (isTy .int x = false ∨ (isTy .int x = true ∧ isTy .bool x = true)) := by
  cases x with
  | int i => exact .inl ⟨i, rfl⟩
  | bl b => exact .inr (.inr ⟨rfl, rfl⟩)
  | _ => exact .inr (.inl rfl)
theorem ty_int (i : Int) : isTy .int (.int i) = true := rfl
theorem ty_bool (i : Int) : isTy .bool (.int i) = false := rfl
theorem ty_tup (xs : List D) : isTy .tuple (.tup xs) = true := rfl
theorem isTup (d : D) : (∃ xs, d = .tup xs) ∨ isTy .tuple d = false := by
  cases d with
  | tup xs => exact .inl ⟨xs, rfl⟩
  | _ => exact .inr rfl
theorem dep_int (i : Int) : (D.int i).dep = 0 := rfl
end Zw
namespace Law
open Zw PySem
def gx (n : Nat) : Gx := md.gx n
def lowg (n : Nat) : Gx := ⟨md.call n, fun g => md.gcs[g]?, fun _ _ _ => .bad, sb, fun _ => none, false, fun _ => none, fun g => md.gds[g]?⟩
theorem gx_fn (n i : Nat) : (gx n).fn i = md.call n i := rfl
theorem lg_fn (n i : Nat) : (lowg n).fn i = md.call n i := rfl
theorem gx_od (n : Nat) : (gx (n + 2)).od = true := decide_eq_true (Nat.le_add_left 2 n)
theorem gx_fn2 (n i : Nat) : (gx (n + 2)).fn2 i = md.call n i := rfl
theorem gxl_fn (n i : Nat) : (md.gxl (n + 1)).fn i = md.call n i := rfl
theorem u_Land (n : Nat) (args : List B) (s : Store) : md.call (n + 2) 82 args s = runI (md.gxl (n + 1)) in_Land args s := rfl
theorem gx_low (n : Nat) : (gx (n + 2)).low = lowg n := rfl
theorem gx_sub (n : Nat) : (gx n).sub = sb := rfl
theorem gt__law_met (n : Nat) : (gx (n + 2)).tl 0 = some t__law_met := by
  show (if 2 ≤ n + 2 then fun t => md.tls[t]? else fun _ => none) 0 = _
  rw [if_pos (Nat.le_add_left 2 n)]
  rfl
theorem g_MAX_HORIZON (n : Nat) : (gx n).gc 0 = some c_MAX_HORIZON := rfl
theorem lg_MAX_HORIZON (n : Nat) : (lowg n).gc 0 = some c_MAX_HORIZON := rfl
theorem g_GREAT (n : Nat) : (gx n).gc 1 = some c_GREAT := rfl
theorem lg_GREAT (n : Nat) : (lowg n).gc 1 = some c_GREAT := rfl
theorem g_MAX_CELLS (n : Nat) : (gx n).gc 2 = some c_MAX_CELLS := rfl
theorem lg_MAX_CELLS (n : Nat) : (lowg n).gc 2 = some c_MAX_CELLS := rfl
theorem g_MAX_WAYS (n : Nat) : (gx n).gc 3 = some c_MAX_WAYS := rfl
theorem lg_MAX_WAYS (n : Nat) : (lowg n).gc 3 = some c_MAX_WAYS := rfl
theorem g_MAX_ORIGINS (n : Nat) : (gx n).gc 4 = some c_MAX_ORIGINS := rfl
theorem lg_MAX_ORIGINS (n : Nat) : (lowg n).gc 4 = some c_MAX_ORIGINS := rfl
theorem g_MAX_BURN (n : Nat) : (gx n).gc 5 = some c_MAX_BURN := rfl
theorem lg_MAX_BURN (n : Nat) : (lowg n).gc 5 = some c_MAX_BURN := rfl
theorem g_BURN_histories (n : Nat) : (gx n).gc 6 = some c_BURN_histories := rfl
theorem lg_BURN_histories (n : Nat) : (lowg n).gc 6 = some c_BURN_histories := rfl
theorem g_CAUSE_histories (n : Nat) : (gx n).gc 7 = some c_CAUSE_histories := rfl
theorem lg_CAUSE_histories (n : Nat) : (lowg n).gc 7 = some c_CAUSE_histories := rfl
theorem g_MUST_histories (n : Nat) : (gx n).gc 8 = some c_MUST_histories := rfl
theorem lg_MUST_histories (n : Nat) : (lowg n).gc 8 = some c_MUST_histories := rfl
theorem g_MAX_REPORTS (n : Nat) : (gx n).gc 9 = some c_MAX_REPORTS := rfl
theorem lg_MAX_REPORTS (n : Nat) : (lowg n).gc 9 = some c_MAX_REPORTS := rfl
theorem g_MAX_PAIRS (n : Nat) : (gx n).gc 10 = some c_MAX_PAIRS := rfl
theorem lg_MAX_PAIRS (n : Nat) : (lowg n).gc 10 = some c_MAX_PAIRS := rfl
theorem g_MAX_LAG (n : Nat) : (gx n).gc 11 = some c_MAX_LAG := rfl
theorem lg_MAX_LAG (n : Nat) : (lowg n).gc 11 = some c_MAX_LAG := rfl
theorem g_AHEAD (n : Nat) : (gx n).gc 12 = some c_AHEAD := rfl
theorem lg_AHEAD (n : Nat) : (lowg n).gc 12 = some c_AHEAD := rfl
theorem g_BEHIND (n : Nat) : (gx n).gc 13 = some c_BEHIND := rfl
theorem lg_BEHIND (n : Nat) : (lowg n).gc 13 = some c_BEHIND := rfl
theorem g_BURNT (n : Nat) : (gx n).gc 14 = some c_BURNT := rfl
theorem lg_BURNT (n : Nat) : (lowg n).gc 14 = some c_BURNT := rfl
theorem g_OUT (n : Nat) : (gx n).gc 15 = some c_OUT := rfl
theorem lg_OUT (n : Nat) : (lowg n).gc 15 = some c_OUT := rfl
theorem g_SOME (n : Nat) : (gx n).gc 16 = some c_SOME := rfl
theorem lg_SOME (n : Nat) : (lowg n).gc 16 = some c_SOME := rfl
theorem g_STILL (n : Nat) : (gx n).gc 17 = some c_STILL := rfl
theorem lg_STILL (n : Nat) : (lowg n).gc 17 = some c_STILL := rfl
theorem g_UNLESS (n : Nat) : (gx n).gc 18 = some c_UNLESS := rfl
theorem lg_UNLESS (n : Nat) : (lowg n).gc 18 = some c_UNLESS := rfl
theorem g_WHOLE (n : Nat) : (gx n).gc 19 = some c_WHOLE := rfl
theorem lg_WHOLE (n : Nat) : (lowg n).gc 19 = some c_WHOLE := rfl
theorem g_AT_AN_HOUR (n : Nat) : (gx n).gc 20 = some c_AT_AN_HOUR := rfl
theorem lg_AT_AN_HOUR (n : Nat) : (lowg n).gc 20 = some c_AT_AN_HOUR := rfl
theorem g_OF_TWO (n : Nat) : (gx n).gc 21 = some c_OF_TWO := rfl
theorem lg_OF_TWO (n : Nat) : (lowg n).gc 21 = some c_OF_TWO := rfl
theorem g_CAUSE_earliest (n : Nat) : (gx n).gc 22 = some c_CAUSE_earliest := rfl
theorem lg_CAUSE_earliest (n : Nat) : (lowg n).gc 22 = some c_CAUSE_earliest := rfl
theorem g_MUST_earliest (n : Nat) : (gx n).gc 23 = some c_MUST_earliest := rfl
theorem lg_MUST_earliest (n : Nat) : (lowg n).gc 23 = some c_MUST_earliest := rfl
theorem g_BURN_earliest (n : Nat) : (gx n).gc 24 = some c_BURN_earliest := rfl
theorem lg_BURN_earliest (n : Nat) : (lowg n).gc 24 = some c_BURN_earliest := rfl
theorem g_BACK (n : Nat) : (gx n).gc 25 = some c_BACK := rfl
theorem lg_BACK (n : Nat) : (lowg n).gc 25 = some c_BACK := rfl
theorem g_REPORT (n : Nat) : (gx n).gc 26 = some c_REPORT := rfl
theorem lg_REPORT (n : Nat) : (lowg n).gc 26 = some c_REPORT := rfl
theorem g_END (n : Nat) : (gx n).gc 27 = some c_END := rfl
theorem lg_END (n : Nat) : (lowg n).gc 27 = some c_END := rfl
theorem g_MOST_LIES (n : Nat) : (gx n).gc 28 = some c_MOST_LIES := rfl
theorem lg_MOST_LIES (n : Nat) : (lowg n).gc 28 = some c_MOST_LIES := rfl
theorem g_FITS (n : Nat) : (gx n).gc 29 = some c_FITS := rfl
theorem lg_FITS (n : Nat) : (lowg n).gc 29 = some c_FITS := rfl
theorem g_ROW (n : Nat) : (gx n).gc 30 = some c_ROW := rfl
theorem lg_ROW (n : Nat) : (lowg n).gc 30 = some c_ROW := rfl
theorem u_is_whole (n : Nat) (args : List B) (s : Store) : md.call (n + 1) 0 args s = runF (gx n) f_is_whole args s := rfl
theorem u_is_within (n : Nat) (args : List B) (s : Store) : md.call (n + 1) 1 args s = runF (gx n) f_is_within args s := rfl
theorem u_before (n : Nat) (args : List B) (s : Store) : md.call (n + 1) 2 args s = runF (gx n) f_before args s := rfl
theorem u_behind (n : Nat) (args : List B) (s : Store) : md.call (n + 1) 3 args s = runF (gx n) f_behind args s := rfl
theorem u_moved (n : Nat) (args : List B) (s : Store) : md.call (n + 1) 4 args s = runF (gx n) f_moved args s := rfl
theorem u_goes_ahead (n : Nat) (args : List B) (s : Store) : md.call (n + 1) 5 args s = runF (gx n) f_goes_ahead args s := rfl
theorem u_is_row_of (n : Nat) (args : List B) (s : Store) : md.call (n + 1) 6 args s = runF (gx n) f_is_row_of args s := rfl
theorem u_is_burn (n : Nat) (args : List B) (s : Store) : md.call (n + 1) 7 args s = runF (gx n) f_is_burn args s := rfl
theorem u_is_way (n : Nat) (args : List B) (s : Store) : md.call (n + 1) 8 args s = runF (gx n) f_is_way args s := rfl
theorem u_is_origin (n : Nat) (args : List B) (s : Store) : md.call (n + 1) 9 args s = runF (gx n) f_is_origin args s := rfl
theorem u_land_fault (n : Nat) (args : List B) (s : Store) : md.call (n + 1) 10 args s = runF (gx n) f_land_fault args s := rfl
theorem u_require_land (n : Nat) (args : List B) (s : Store) : md.call (n + 1) 11 args s = runF (gx n) f_require_land args s := rfl
theorem u_is_cell_of (n : Nat) (args : List B) (s : Store) : md.call (n + 1) 12 args s = runF (gx n) f_is_cell_of args s := rfl
theorem u_is_hour_of (n : Nat) (args : List B) (s : Store) : md.call (n + 1) 13 args s = runF (gx n) f_is_hour_of args s := rfl
theorem u_is_caught_row (n : Nat) (args : List B) (s : Store) : md.call (n + 1) 14 args s = runF (gx n) f_is_caught_row args s := rfl
theorem u_is_out_row (n : Nat) (args : List B) (s : Store) : md.call (n + 1) 15 args s = runF (gx n) f_is_out_row args s := rfl
theorem u_is_draft_of (n : Nat) (args : List B) (s : Store) : md.call (n + 1) 16 args s = runF (gx n) f_is_draft_of args s := rfl
theorem u_is_burn_kept (n : Nat) (args : List B) (s : Store) : md.call (n + 1) 17 args s = runF (gx n) f_is_burn_kept args s := rfl
theorem u_can_come_by (n : Nat) (args : List B) (s : Store) : md.call (n + 1) 18 args s = runF (gx n) f_can_come_by args s := rfl
theorem u_is_caused (n : Nat) (args : List B) (s : Store) : md.call (n + 1) 19 args s = runF (gx n) f_is_caused args s := rfl
theorem u_due_hour (n : Nat) (args : List B) (s : Store) : md.call (n + 1) 20 args s = runF (gx n) f_due_hour args s := rfl
theorem u_is_must_kept (n : Nat) (args : List B) (s : Store) : md.call (n + 1) 21 args s = runF (gx n) f_is_must_kept args s := rfl
theorem u_faults_in (n : Nat) (args : List B) (s : Store) : md.call (n + 1) 22 args s = runF (gx n) f_faults_in args s := rfl
theorem u_is_fitting_in (n : Nat) (args : List B) (s : Store) : md.call (n + 1) 23 args s = runF (gx n) f_is_fitting_in args s := rfl
theorem u_is_pair_of (n : Nat) (args : List B) (s : Store) : md.call (n + 1) 24 args s = runF (gx n) f_is_pair_of args s := rfl
theorem u_are_pairs_of (n : Nat) (args : List B) (s : Store) : md.call (n + 1) 25 args s = runF (gx n) f_are_pairs_of args s := rfl
theorem u_is_report_of (n : Nat) (args : List B) (s : Store) : md.call (n + 1) 26 args s = runF (gx n) f_is_report_of args s := rfl
theorem u_are_reports_of (n : Nat) (args : List B) (s : Store) : md.call (n + 1) 27 args s = runF (gx n) f_are_reports_of args s := rfl
theorem u_is_by (n : Nat) (args : List B) (s : Store) : md.call (n + 1) 28 args s = runF (gx n) f_is_by args s := rfl
theorem u_is_some_burnt (n : Nat) (args : List B) (s : Store) : md.call (n + 1) 29 args s = runF (gx n) f_is_some_burnt args s := rfl
theorem u_do_two_hold (n : Nat) (args : List B) (s : Store) : md.call (n + 1) 30 args s = runF (gx n) f_do_two_hold args s := rfl
theorem u_does_hold_in (n : Nat) (args : List B) (s : Store) : md.call (n + 1) 31 args s = runF (gx n) f_does_hold_in args s := rfl
theorem u_do_hold_in (n : Nat) (args : List B) (s : Store) : md.call (n + 1) 32 args s = runF (gx n) f_do_hold_in args s := rfl
theorem u_require_reports (n : Nat) (args : List B) (s : Store) : md.call (n + 1) 33 args s = runF (gx n) f_require_reports args s := rfl
theorem u_rules_of (n : Nat) (args : List B) (s : Store) : md.call (n + 1) 34 args s = runF (gx n) f_rules_of args s := rfl
theorem u_ended (n : Nat) (args : List B) (s : Store) : md.call (n + 1) 35 args s = runF (gx n) f_ended args s := rfl
theorem u_least_in (n : Nat) (args : List B) (s : Store) : md.call (n + 1) 36 args s = runF (gx n) f_least_in args s := rfl
theorem u_row_in (n : Nat) (args : List B) (s : Store) : md.call (n + 1) 37 args s = runF (gx n) f_row_in args s := rfl
theorem u_is_rule_of (n : Nat) (args : List B) (s : Store) : md.call (n + 1) 38 args s = runF (gx n) f_is_rule_of args s := rfl
theorem u_are_rules_of (n : Nat) (args : List B) (s : Store) : md.call (n + 1) 39 args s = runF (gx n) f_are_rules_of args s := rfl
theorem u_led_by (n : Nat) (args : List B) (s : Store) : md.call (n + 1) 40 args s = runF (gx n) f_led_by args s := rfl
theorem u_is_row_in (n : Nat) (args : List B) (s : Store) : md.call (n + 1) 41 args s = runF (gx n) f_is_row_in args s := rfl
theorem u_of_lot (n : Nat) (args : List B) (s : Store) : md.call (n + 1) 42 args s = runF (gx n) f_of_lot args s := rfl
theorem u_is_true_lot (n : Nat) (args : List B) (s : Store) : md.call (n + 1) 43 args s = runF (gx n) f_is_true_lot args s := rfl
theorem u_struck (n : Nat) (args : List B) (s : Store) : md.call (n + 1) 44 args s = runF (gx n) f_struck args s := rfl
theorem u_others_of (n : Nat) (args : List B) (s : Store) : md.call (n + 1) 45 args s = runF (gx n) f_others_of args s := rfl
theorem u_is_some_lie (n : Nat) (args : List B) (s : Store) : md.call (n + 1) 46 args s = runF (gx n) f_is_some_lie args s := rfl
theorem u_is_some_truth (n : Nat) (args : List B) (s : Store) : md.call (n + 1) 47 args s = runF (gx n) f_is_some_truth args s := rfl
theorem u_all_lots (n : Nat) (args : List B) (s : Store) : md.call (n + 1) 48 args s = runF (gx n) f_all_lots args s := rfl
theorem u_are_within (n : Nat) (args : List B) (s : Store) : md.call (n + 1) 49 args s = runF (gx n) f_are_within args s := rfl
theorem u_lies_in (n : Nat) (args : List B) (s : Store) : md.call (n + 1) 50 args s = runF (gx n) f_lies_in args s := rfl
theorem u_truths_of (n : Nat) (args : List B) (s : Store) : md.call (n + 1) 51 args s = runF (gx n) f_truths_of args s := rfl
theorem u_left_out (n : Nat) (args : List B) (s : Store) : md.call (n + 1) 52 args s = runF (gx n) f_left_out args s := rfl
theorem u_most_apart (n : Nat) (args : List B) (s : Store) : md.call (n + 1) 53 args s = runF (gx n) f_most_apart args s := rfl
theorem u_require_told (n : Nat) (args : List B) (s : Store) : md.call (n + 1) 54 args s = runF (gx n) f_require_told args s := rfl
theorem u_is_lot_of (n : Nat) (args : List B) (s : Store) : md.call (n + 1) 55 args s = runF (gx n) f_is_lot_of args s := rfl
theorem u_require_lot (n : Nat) (args : List B) (s : Store) : md.call (n + 1) 56 args s = runF (gx n) f_require_lot args s := rfl
theorem u_require_few (n : Nat) (args : List B) (s : Store) : md.call (n + 1) 57 args s = runF (gx n) f_require_few args s := rfl
theorem u_known_lies (n : Nat) (args : List B) (s : Store) : md.call (n + 1) 58 args s = runF (gx n) f_known_lies args s := rfl
theorem u_can_be_true (n : Nat) (args : List B) (s : Store) : md.call (n + 1) 59 args s = runF (gx n) f_can_be_true args s := rfl
theorem u_true_paper (n : Nat) (args : List B) (s : Store) : md.call (n + 1) 60 args s = runF (gx n) f_true_paper args s := rfl
theorem u_is_true_paper (n : Nat) (args : List B) (s : Store) : md.call (n + 1) 61 args s = runF (gx n) f_is_true_paper args s := rfl
theorem u_lie_within (n : Nat) (args : List B) (s : Store) : md.call (n + 1) 62 args s = runF (gx n) f_lie_within args s := rfl
theorem u_is_lie (n : Nat) (args : List B) (s : Store) : md.call (n + 1) 63 args s = runF (gx n) f_is_lie args s := rfl
theorem u_is_truth (n : Nat) (args : List B) (s : Store) : md.call (n + 1) 64 args s = runF (gx n) f_is_truth args s := rfl
theorem u_lie_paper (n : Nat) (args : List B) (s : Store) : md.call (n + 1) 65 args s = runF (gx n) f_lie_paper args s := rfl
theorem u_is_lie_paper (n : Nat) (args : List B) (s : Store) : md.call (n + 1) 66 args s = runF (gx n) f_is_lie_paper args s := rfl
theorem u_all_lies (n : Nat) (args : List B) (s : Store) : md.call (n + 1) 67 args s = runF (gx n) f_all_lies args s := rfl
theorem u_all_truths (n : Nat) (args : List B) (s : Store) : md.call (n + 1) 68 args s = runF (gx n) f_all_truths args s := rfl
theorem u_suspects (n : Nat) (args : List B) (s : Store) : md.call (n + 1) 69 args s = runF (gx n) f_suspects args s := rfl
theorem u_guilty (n : Nat) (args : List B) (s : Store) : md.call (n + 1) 70 args s = runF (gx n) f_guilty args s := rfl
theorem u_fewest_false (n : Nat) (args : List B) (s : Store) : md.call (n + 1) 71 args s = runF (gx n) f_fewest_false args s := rfl
theorem u_truth_with (n : Nat) (args : List B) (s : Store) : md.call (n + 1) 72 args s = runF (gx n) f_truth_with args s := rfl
theorem u_apart_lies (n : Nat) (args : List B) (s : Store) : md.call (n + 1) 73 args s = runF (gx n) f_apart_lies args s := rfl
theorem u__law_bag (n : Nat) (args : List B) (s : Store) : md.call (n + 1) 74 args s = runF (gx n) f__law_bag args s := rfl
theorem u__law_draw (n : Nat) (args : List B) (s : Store) : md.call (n + 1) 75 args s = runF (gx n) f__law_draw args s := rfl
theorem u__law_one_of (n : Nat) (args : List B) (s : Store) : md.call (n + 1) 76 args s = runF (gx n) f__law_one_of args s := rfl
theorem u__law_mixed (n : Nat) (args : List B) (s : Store) : md.call (n + 1) 77 args s = runF (gx n) f__law_mixed args s := rfl
theorem u__law_lots (n : Nat) (args : List B) (s : Store) : md.call (n + 1) 78 args s = runF (gx n) f__law_lots args s := rfl
theorem u__law_all_of (n : Nat) (args : List B) (s : Store) : md.call (n + 1) 79 args s = runF (gx n) f__law_all_of args s := rfl
theorem u__law_right (n : Nat) (args : List B) (s : Store) : md.call (n + 1) 80 args s = runF (gx n) f__law_right args s := rfl
theorem u_law (n : Nat) (args : List B) (s : Store) : md.call (n + 1) 81 args s = runF (gx n) f_law args s := rfl
theorem u_Land_parts (n : Nat) (args : List B) (s : Store) : md.call (n + 1) 83 args s = runF (gx n) m_Land_parts args s := rfl
theorem u_Bounds_told (n : Nat) (args : List B) (s : Store) : md.call (n + 1) 84 args s = runF (gx n) m_Bounds_told args s := rfl
theorem u_Bounds_put (n : Nat) (args : List B) (s : Store) : md.call (n + 1) 85 args s = runF (gx n) m_Bounds_put args s := rfl
theorem u_Bounds_raise_caught (n : Nat) (args : List B) (s : Store) : md.call (n + 1) 86 args s = runF (gx n) m_Bounds_raise_caught args s := rfl
theorem u_Bounds_raise_out (n : Nat) (args : List B) (s : Store) : md.call (n + 1) 87 args s = runF (gx n) m_Bounds_raise_out args s := rfl
theorem u_Bounds_cause (n : Nat) (args : List B) (s : Store) : md.call (n + 1) 88 args s = runF (gx n) m_Bounds_cause args s := rfl
theorem u_Bounds_must (n : Nat) (args : List B) (s : Store) : md.call (n + 1) 89 args s = runF (gx n) m_Bounds_must args s := rfl
theorem u_Bounds_burn (n : Nat) (args : List B) (s : Store) : md.call (n + 1) 90 args s = runF (gx n) m_Bounds_burn args s := rfl
theorem u_Bounds_back (n : Nat) (args : List B) (s : Store) : md.call (n + 1) 91 args s = runF (gx n) m_Bounds_back args s := rfl
theorem u_Bounds_are_behind (n : Nat) (args : List B) (s : Store) : md.call (n + 1) 92 args s = runF (gx n) m_Bounds_are_behind args s := rfl
theorem u_Bounds_report (n : Nat) (args : List B) (s : Store) : md.call (n + 1) 93 args s = runF (gx n) m_Bounds_report args s := rfl
theorem u_Bounds_two (n : Nat) (args : List B) (s : Store) : md.call (n + 1) 94 args s = runF (gx n) m_Bounds_two args s := rfl
theorem u_Bounds_apply (n : Nat) (args : List B) (s : Store) : md.call (n + 1) 95 args s = runF (gx n) m_Bounds_apply args s := rfl
theorem u_Bounds_is_broken (n : Nat) (args : List B) (s : Store) : md.call (n + 1) 96 args s = runF (gx n) m_Bounds_is_broken args s := rfl
end Law
set_option linter.all false
set_option maxRecDepth 100000
set_option maxHeartbeats 4000000
set_option exponentiation.threshold 5000
namespace Law
open Zw PySem
/-- a comprehension by a judge -/
theorem map_all (b : D → Bool) : ∀ xs : List D, xs.filterMap (fun x => some (D.bl (b x))) = xs.map fun x => D.bl (b x)
  | [] => rfl
  | x :: xs => by rw [List.filterMap_cons, map_all b xs]; rfl
theorem bls_fine (b : D → Bool) : ∀ xs : List D, D.Fines (xs.map fun x => D.bl (b x)) ∧ D.deps (xs.map fun x => D.bl (b x)) = 0 ∧ D.wts (xs.map fun x => D.bl (b x)) = 7 * xs.length
  | [] => ⟨trivial, rfl, rfl⟩
  | x :: xs => by
    obtain ⟨h1, h2, h3⟩ := bls_fine b xs
    simp only [List.map_cons, D.Fines, D.deps, D.wts, D.Fine, D.dep, D.wt, h2, h3, List.length_cons]
    exact ⟨⟨trivial, h1⟩, rfl, by omega⟩
theorem bls_repr (b : D → Bool) {xs : List D} (h : xs.length ≤ 1000) : reprOk (.lst (xs.map fun x => D.bl (b x))) = true := by
  obtain ⟨h1, h2, h3⟩ := bls_fine b xs
  refine reprOk_of (by rw [D.Fine]; exact h1) ?_ ?_
  · rw [D.wt, h3]; unfold Zw.line; omega
  · rw [D.dep, h2]; decide
theorem str_ok (s : Str) : eqOk (.str s) (.str s) = true := rfl
theorem execs_split (G : Gx) (k : Nat) : ∀ (cs : List CS) (ρ : Zw.Env) (s : Store), Zw.execs G cs ρ s = match Zw.execs G (cs.take k) ρ s with
    | .nx ρ' s' => Zw.execs G (cs.drop k) ρ' s'
    | r => r := by
  induction k with
  | zero => intro cs ρ s; simp [Zw.execs]
  | succ k ih =>
    intro cs ρ s
    cases cs with
    | nil => simp [Zw.execs]
    | cons c cs =>
      rw [List.take_succ_cons, List.drop_succ_cons, Zw.execs, Zw.execs]
      cases Zw.exec G c ρ s <;> simp
      exact ih cs _ _
theorem execs_nx {G : Gx} (k : Nat) {cs : List CS} {ρ ρ' : Zw.Env} {s s' : Store} (h : Zw.execs G (cs.take k) ρ s = .nx ρ' s') : Zw.execs G cs ρ s = Zw.execs G (cs.drop k) ρ' s' := by
  rw [execs_split G k, h]
theorem wFine (i : Int) (h : i.natAbs < 10 ^ 110) : i.natAbs < 2 ^ 1900 := Nat.lt_of_lt_of_le h (by decide)
end Law
set_option linter.all false
set_option maxRecDepth 100000
set_option maxHeartbeats 4000000
set_option exponentiation.threshold 5000
namespace Law
open Zw PySem
/-! ### drawing -/
abbrev bag (g b c : Int) : O := .lst [.int g, .int b, .int c]
def Gd (k : Nat) (g b c : Int) : Prop := 0 ≤ g ∧ 0 ≤ b ∧ b < 2 ^ 80 ∧ 0 ≤ c ∧ c ≤ k
theorem small_log {a : Int} (h : a.natAbs < 2 ^ 200) : a.natAbs < 2 ^ 4000 := Nat.lt_of_lt_of_le h (Nat.pow_le_pow_right (by decide) (by decide))
theorem draw_ok (n k : Nat) {g b c m : Int} (h : Gd k g b c) (hk : k < 1000) (hm : 0 < m) (hm2 : m < 10 ^ 60) : ∃ v g' b' c', md.call (n + 1) 75 [.r 0, .t (.int m)] [bag g b c] = .ok (.t (.int v)) [bag g' b' c'] ∧ 0 ≤ v ∧ v < m ∧ Gd (k + 1) g' b' c' := by
  obtain ⟨h1, h2, h3, h4, h5⟩ := h
  have hl : m.natAbs.log2 < 9000 := Nat.lt_trans (log_small (k := 200) (by decide) (show m.natAbs < 2 ^ 200 by omega)) (by decide)
  rw [u__law_draw]
  by_cases hg : 0 < g
  · refine ⟨g % m, g / m, b, c, ?_, Int.emod_nonneg _ (by omega), Int.emod_lt_of_pos _ hm, Int.ediv_nonneg h1 (by omega), h2, h3, h4, by omega⟩
    simp [gx_fn, runF, enter, B.par, Zw.execs, Zw.exec, Zw.ev, evl, evs, evg, evO, evAnd, evOr, evConds, evT, R.bind, R.to, R.of, readV, truB, B.look, B.peek, B.frz, B.give, B.still, B.bl?, D.tru, op2, opAdd, opSub, opMul, opMod, opFdiv, opPow, cmp2, cmLt, cmI, cmN, cmIn, D.isNon, D.isBl, bi1, bi2, biLen, biAbs, biInt, biAll, biTuple, biList, biSum, bi2I, ty_int, ty_bool, ty_tup, blsOf, Zw.still, ixD, ixN, itemsD, wipe, bindT, bindTs, seens, B.seen, Zw.walk, frzs, setAll, gives, eqOk_int, eqB_int, compL, len2, len3, eqOk_pt, eqB_pt, lstAt, lstPut, slice, cut, sIx, Zw.line, tellR, tlFind, enumD, zipD, zipS, f__law_draw, hg, hm, hl]
  · have l2 : (65539 : Nat).log2 < 9000 := by decide
    have m1 : mulOk 86028121 (c + 1) = true := mulOk_of (small_log (by decide)) (small_log (show (c + 1).natAbs < 2 ^ 200 by omega))
    have e1 := Int.emod_nonneg (b + 86028121 * (c + 1)) (show (2305843009213693951 : Int) ≠ 0 by decide)
    have e2 := Int.emod_lt_of_pos (b + 86028121 * (c + 1)) (show (0 : Int) < 2305843009213693951 by decide)
    generalize hone : (b + 86028121 * (c + 1)) % 2305843009213693951 = one at *
    have m2 : mulOk one one = true := mulOk_of (small_log (show one.natAbs < 2 ^ 200 by omega)) (small_log (show one.natAbs < 2 ^ 200 by omega))
    have m3 : mulOk 107 (c + 1) = true := mulOk_of (small_log (by decide)) (small_log (show (c + 1).natAbs < 2 ^ 200 by omega))
    have e3 := Int.emod_nonneg (one * one + 107 * (c + 1)) (show (2305843009213693921 : Int) ≠ 0 by decide)
    have e4 := Int.emod_lt_of_pos (one * one + 107 * (c + 1)) (show (0 : Int) < 2305843009213693921 by decide)
    generalize htwo : (one * one + 107 * (c + 1)) % 2305843009213693921 = two at *
    have m4 : mulOk two 3999971 = true := mulOk_of (small_log (show two.natAbs < 2 ^ 200 by omega)) (small_log (by decide))
    refine ⟨(two * 3999971 + one) / 65539 % m, g, b, c + 1, ?_, Int.emod_nonneg _ (by omega), Int.emod_lt_of_pos _ hm, h1, h2, h3, by omega, by omega⟩
    simp [gx_fn, runF, enter, B.par, Zw.execs, Zw.exec, Zw.ev, evl, evs, evg, evO, evAnd, evOr, evConds, evT, R.bind, R.to, R.of, readV, truB, B.look, B.peek, B.frz, B.give, B.still, B.bl?, D.tru, op2, opAdd, opSub, opMul, opMod, opFdiv, opPow, cmp2, cmLt, cmI, cmN, cmIn, D.isNon, D.isBl, bi1, bi2, biLen, biAbs, biInt, biAll, biTuple, biList, biSum, bi2I, ty_int, ty_bool, ty_tup, blsOf, Zw.still, ixD, ixN, itemsD, wipe, bindT, bindTs, seens, B.seen, Zw.walk, frzs, setAll, gives, eqOk_int, eqB_int, compL, len2, len3, eqOk_pt, eqB_pt, lstAt, lstPut, slice, cut, sIx, Zw.line, tellR, tlFind, enumD, zipD, zipS, f__law_draw, hg, hm, m1, hone, m2, m3, htwo, m4, l2]
theorem one_of_ok (n k : Nat) {g b c : Int} {xs : List D} (h : Gd k g b c) (hk : k < 1000) (hx : xs ≠ []) (hl : xs.length < 1000) : ∃ v g' b' c', md.call (n + 2) 76 [.r 0, .t (.lst xs)] [bag g b c] = .ok (.t v) [bag g' b' c'] ∧ v ∈ xs ∧ Gd (k + 1) g' b' c' := by
  have h0 : 0 < xs.length := List.length_pos_iff.mpr hx
  obtain ⟨v, g', b', c', e, v0, v1, gd⟩ := draw_ok n k (m := (xs.length : Int)) h hk (by omega) (by omega)
  have e := cs_r2 e
  have hv : v.toNat < xs.length := by omega
  refine ⟨xs[v.toNat], g', b', c', ?_, List.getElem_mem _, gd⟩
  rw [u__law_one_of]
  simp [gx_fn, runF, enter, B.par, Zw.execs, Zw.exec, Zw.ev, evl, evs, evg, evO, evAnd, evOr, evConds, evT, R.bind, R.to, R.of, readV, truB, B.look, B.peek, B.frz, B.give, B.still, B.bl?, D.tru, op2, opAdd, opSub, opMul, opMod, opFdiv, opPow, cmp2, cmLt, cmI, cmN, cmIn, D.isNon, D.isBl, bi1, bi2, biLen, biAbs, biInt, biAll, biTuple, biList, biSum, bi2I, ty_int, ty_bool, ty_tup, blsOf, Zw.still, ixD, ixN, itemsD, wipe, bindT, bindTs, seens, B.seen, Zw.walk, frzs, setAll, gives, eqOk_int, eqB_int, compL, len2, len3, eqOk_pt, eqB_pt, lstAt, lstPut, slice, cut, sIx, Zw.line, tellR, tlFind, enumD, zipD, zipS, f__law_one_of, e, v0, v1, hv]
end Law
set_option linter.all false
set_option maxRecDepth 100000
set_option maxHeartbeats 4000000
set_option exponentiation.threshold 5000
namespace Law
open Zw PySem
theorem bag_ok (n : Nat) {ns : List Int} {at_ : Int} (h0 : 0 ≤ at_) (h4 : at_ < 4) : ∃ g b, md.call (n + 1) 74 [.sc (.lst (ns.map D.int)), .t (.int at_)] [] = .ok (.own (.lst [.int g, .int b, .int 0])) [] ∧ Gd 0 g b 0 := by
  rw [u__law_bag]
  have p1 : powOk 10 16 = true := by decide
  have p2 : powOk 10 58 = true := by decide
  have p3 : powOk 10 59 = true := by decide
  have m1 : mulOk 10000000000000000000000000000000000000000000000000000000000 100000000000000000000000000000000000000000000000000000000000 = true := by decide +kernel
  have m3 : mulOk 1049 at_ = true := mulOk_of (small_log (by decide)) (small_log (show at_.natAbs < 2 ^ 200 by omega))
  have m5 : mulOk 149 at_ = true := mulOk_of (small_log (by decide)) (small_log (show at_.natAbs < 2 ^ 200 by omega))
  have m2 : ∀ c : Int, mulOk (c % 1152921504606846999) 101 = true ∧ 0 ≤ c % 1152921504606846999 ∧ c % 1152921504606846999 < 1152921504606846999 := fun c => by
    have h1 := Int.emod_nonneg c (show (1152921504606846999 : Int) ≠ 0 by decide)
    have h2 := Int.emod_lt_of_pos c (show (0 : Int) < 1152921504606846999 by decide)
    generalize c % 1152921504606846999 = z at *
    exact ⟨mulOk_of (small_log (show z.natAbs < 2 ^ 200 by omega)) (small_log (by decide)), h1, h2⟩
  have fin : ∀ c : Int, ∃ g b, runF (gx n) ⟨3, 4, f__law_bag.body.drop 1⟩ [.sc (.lst (ns.map D.int)), .t (.int at_), .t (.int c)] [] = .ok (.own (.lst [.int g, .int b, .int 0])) [] ∧ Gd 0 g b 0 := by
    intro c
    have q1 : mulOk 59 1 = true := by decide +kernel
    have q0 : mulOk 59 0 = true := by decide +kernel
    by_cases hc : c < 0
    · obtain ⟨z1, z2, z3⟩ := m2 (-c)
      refine ⟨(if 0 < -c - 10 ^ 16 then -c - 10 ^ 16 else 0) % (10 ^ 58 * 10 ^ 59), (-c % 1152921504606846999) * 101 + 1049 * at_ + 59 * 1 + 29, ?_, Int.emod_nonneg _ (by decide), by omega, by omega, by omega, by omega⟩
      simp only [f__law_bag, List.drop]
      simp [gx_fn, runF, enter, B.par, Zw.execs, Zw.exec, Zw.ev, evl, evs, evg, evO, evAnd, evOr, evConds, evT, R.bind, R.to, R.of, readV, truB, B.look, B.peek, B.frz, B.give, B.still, B.bl?, D.tru, op2, opAdd, opSub, opMul, opMod, opFdiv, opPow, cmp2, cmLt, cmI, cmN, cmIn, D.isNon, D.isBl, bi1, bi2, biLen, biAbs, biInt, biAll, biTuple, biList, biSum, bi2I, ty_int, ty_bool, ty_tup, blsOf, Zw.still, ixD, ixN, itemsD, wipe, bindT, bindTs, seens, B.seen, Zw.walk, frzs, setAll, gives, eqOk_int, eqB_int, compL, len2, len3, eqOk_pt, eqB_pt, lstAt, lstPut, slice, cut, sIx, Zw.line, tellR, tlFind, enumD, zipD, zipS, p1, p2, p3, m1, z1, m3, q1, hc]
    · obtain ⟨z1, z2, z3⟩ := m2 c
      refine ⟨(if 0 < c - 10 ^ 16 then c - 10 ^ 16 else 0) % (10 ^ 58 * 10 ^ 59), (c % 1152921504606846999) * 101 + 1049 * at_ + 59 * 0 + 29, ?_, Int.emod_nonneg _ (by decide), by omega, by omega, by omega, by omega⟩
      simp only [f__law_bag, List.drop]
      simp [gx_fn, runF, enter, B.par, Zw.execs, Zw.exec, Zw.ev, evl, evs, evg, evO, evAnd, evOr, evConds, evT, R.bind, R.to, R.of, readV, truB, B.look, B.peek, B.frz, B.give, B.still, B.bl?, D.tru, op2, opAdd, opSub, opMul, opMod, opFdiv, opPow, cmp2, cmLt, cmI, cmN, cmIn, D.isNon, D.isBl, bi1, bi2, biLen, biAbs, biInt, biAll, biTuple, biList, biSum, bi2I, ty_int, ty_bool, ty_tup, blsOf, Zw.still, ixD, ixN, itemsD, wipe, bindT, bindTs, seens, B.seen, Zw.walk, frzs, setAll, gives, eqOk_int, eqB_int, compL, len2, len3, eqOk_pt, eqB_pt, lstAt, lstPut, slice, cut, sIx, Zw.line, tellR, tlFind, enumD, zipD, zipS, p1, p2, p3, m1, z1, m3, q0, hc]
  have cell : ∃ c, Zw.execs (gx n) (f__law_bag.body.take 1) (enter f__law_bag [.sc (.lst (ns.map D.int)), .t (.int at_)]) [] = .nx [some (.sc (.lst (ns.map D.int))), some (.t (.int at_)), some (.t (.int c)), none] [] := by
    by_cases hl : at_ < ns.length
    · have hx : at_.toNat < ns.length := by omega
      refine ⟨ns[at_.toNat], ?_⟩
      simp only [f__law_bag, List.take]
      simp [gx_fn, runF, enter, B.par, Zw.execs, Zw.exec, Zw.ev, evl, evs, evg, evO, evAnd, evOr, evConds, evT, R.bind, R.to, R.of, readV, truB, B.look, B.peek, B.frz, B.give, B.still, B.bl?, D.tru, op2, opAdd, opSub, opMul, opMod, opFdiv, opPow, cmp2, cmLt, cmI, cmN, cmIn, D.isNon, D.isBl, bi1, bi2, biLen, biAbs, biInt, biAll, biTuple, biList, biSum, bi2I, ty_int, ty_bool, ty_tup, blsOf, Zw.still, ixD, ixN, itemsD, wipe, bindT, bindTs, seens, B.seen, Zw.walk, frzs, setAll, gives, eqOk_int, eqB_int, compL, len2, len3, eqOk_pt, eqB_pt, lstAt, lstPut, slice, cut, sIx, Zw.line, tellR, tlFind, enumD, zipD, zipS, h0, hl, hx]
    · refine ⟨149 * at_ + 83, ?_⟩
      simp only [f__law_bag, List.take]
      simp [gx_fn, runF, enter, B.par, Zw.execs, Zw.exec, Zw.ev, evl, evs, evg, evO, evAnd, evOr, evConds, evT, R.bind, R.to, R.of, readV, truB, B.look, B.peek, B.frz, B.give, B.still, B.bl?, D.tru, op2, opAdd, opSub, opMul, opMod, opFdiv, opPow, cmp2, cmLt, cmI, cmN, cmIn, D.isNon, D.isBl, bi1, bi2, biLen, biAbs, biInt, biAll, biTuple, biList, biSum, bi2I, ty_int, ty_bool, ty_tup, blsOf, Zw.still, ixD, ixN, itemsD, wipe, bindT, bindTs, seens, B.seen, Zw.walk, frzs, setAll, gives, eqOk_int, eqB_int, compL, len2, len3, eqOk_pt, eqB_pt, lstAt, lstPut, slice, cut, sIx, Zw.line, tellR, tlFind, enumD, zipD, zipS, h0, hl, m5]
  obtain ⟨c, hc⟩ := cell
  obtain ⟨g, b, e, gd⟩ := fin c
  refine ⟨g, b, ?_, gd⟩
  unfold runF at e ⊢
  rw [if_pos (show [B.sc (.lst (ns.map D.int)), .t (.int at_), .t (.int c)].length = 3 from rfl)] at e
  rw [if_pos (show [B.sc (.lst (ns.map D.int)), .t (.int at_)].length = f__law_bag.params from rfl), execs_nx 1 hc]
  exact e
end Law
set_option linter.all false
set_option maxRecDepth 100000
set_option maxHeartbeats 4000000
set_option exponentiation.threshold 5000
namespace Law
open Zw PySem
theorem forLc_inv {n : Nat} {f : D → Zw.Env → Store → RS} (P : Zw.Env → Store → Prop) : ∀ (xs : List D), (∀ x ∈ xs, ∀ ρ s, P ρ s → ∃ ρ' s', f x ρ s = .nx ρ' s' ∧ P (cutE n ρ') (s'.take n)) → ∀ (ρ : Zw.Env) (s : Store), P ρ s → ∃ ρ' s', forL true n f xs ρ s = .nx ρ' s' ∧ P ρ' s'
  | [], _, ρ, s, p => ⟨ρ, s, rfl, p⟩
  | x :: xs, h, ρ, s, p => by
    obtain ⟨ρ1, s1, e1, p1⟩ := h x List.mem_cons_self ρ s p
    obtain ⟨ρ2, s2, e2, p2⟩ := forLc_inv P xs (fun y hy => h y (List.mem_cons_of_mem _ hy)) _ _ p1
    refine ⟨ρ2, s2, ?_, p2⟩
    rw [forL, e1]
    exact e2
theorem compL_inv {f : D → Store → R (Option D)} (P : Store → Prop) (h : ∀ x s, P s → ∃ s', f x s = .ok none s' ∧ P s') : ∀ (xs acc : List D) (s : Store), P s → ∃ s', compL f xs acc s = .ok acc s' ∧ P s'
  | [], acc, s, p => ⟨s, rfl, p⟩
  | x :: xs, acc, s, p => by
    obtain ⟨s1, e1, p1⟩ := h x s p
    obtain ⟨s2, e2, p2⟩ := compL_inv P h xs acc s1 p1
    refine ⟨s2, ?_, p2⟩
    rw [compL, e1]
    exact e2
theorem ev_comp_st {G : Gx} {kind : Nat} {its : List CE} {tg : Tg} {own : List Nat} {conds : List CE} {elt : CE} {ρ : Zw.Env} {s s1 s2 : Store} {bs : List B} {xs ys : List D} (h1 : evl G its ρ s = .ok bs s1) (h2 : (seens bs).bind (walk kind) = some xs)
    (h3 : compL (turnC G tg own conds elt ρ) xs [] s1 = .ok ys s2) : ev G (.comp kind its tg own conds elt) ρ s = .ok (.own (.lst ys)) s2 := by
  have e : ev G (.comp kind its tg own conds elt) ρ s = (evl G its ρ s).bind fun bs s => match (seens bs).bind (walk kind) with
      | none => .bad
      | some xs => (compL (turnC G tg own conds elt ρ) xs [] s).bind fun ys s => .ok (.own (.lst ys)) s := by rw [ev]; rfl
  rw [e, h1]
  show (match (seens bs).bind (walk kind) with
      | none => R.bad
      | some xs => (compL (turnC G tg own conds elt ρ) xs [] s1).bind fun ys s => R.ok (B.own (.lst ys)) s) = _
  rw [h2]
  show (compL (turnC G tg own conds elt ρ) xs [] s1).bind (fun ys s => R.ok (B.own (.lst ys)) s) = _
  rw [h3]
  rfl
theorem cs_st {F : List B → Store → R B} {a b r : D} (h : F [.sc a, .t b] [] = .ok (.own r) []) (s : Store) : callS F [.sc a, .t b] s = .ok (.own r) s := by
  simp [callS, List.filterMap_cons, B.ref?, getAll, renum, h, B.give, putAll]
end Law
set_option linter.all false
set_option maxRecDepth 100000
set_option maxHeartbeats 4000000
set_option exponentiation.threshold 5000
namespace Law
open Zw PySem
abbrev ii (a b : Int) : D := .tup [.int a, .int b]
abbrev st (x : String) : D := .str (Str.ofString x)
abbrev rep (k : String) (a b : Int) : D := .tup [st k, .int a, .int b]
abbrev cl (x : String) : D := .tup [st x]
abbrev nu (x : D) : D := .tup [st "number", x]
abbrev rp (n : Nat) (x : D) : List D := List.replicate n x
theorem cs_x2 {F : List B → Store → R B} {a b : D} {c : Nat} {p : List D} (h : F [.t a, .t b] [] = .ex c p []) (s : Store) : callS F [.t a, .t b] s = .ex c p s := by
  simp [callS, List.filterMap_cons, B.ref?, getAll, renum, h, putAll]
theorem cs_o5 {F : List B → Store → R B} {a b c d e r : D} (h : F [.t a, .t b, .t c, .t d, .t e] [] = .ok (.own r) []) (s : Store) : callS F [.t a, .t b, .t c, .t d, .t e] s = .ok (.own r) s := by
  simp [callS, List.filterMap_cons, B.ref?, getAll, renum, h, B.give, putAll]
theorem draw_st (i : Nat) (E : CE) (xs : List D) {k : Nat} {ρ : Zw.Env} {g b c : Int} (gd : Gd k g b c) (hk : k < 1000) (h0 : ρ[0]? = some (some (.r 0))) (hi : i < ρ.length) (he : ∀ s, ev (gx 59) E ρ s = .ok (.own (.lst xs)) s) (hx : xs ≠ []) (hl : xs.length < 1000) :
    ∃ v g' b' c', Zw.execs (gx 59) [.asg i (.call 76 [(.var 0), E]), .frz i] ρ [bag g b c] = .nx (ρ.set i (some (.t v))) [bag g' b' c'] ∧ v ∈ xs ∧ Gd (k + 1) g' b' c' := by
  obtain ⟨v, g1, b1, c1, e, hv, gd1⟩ := one_of_ok 57 k gd hk hx hl
  have e : callS ((gx 59).fn 76) [.r 0, .t (.lst xs)] [bag g b c] = .ok (.t v) [bag g1 b1 c1] := cs_r2 e
  refine ⟨v, g1, b1, c1, ?_, hv, gd1⟩
  simp [Zw.execs, Zw.exec, ev, evl, he, h0, readV, R.bind, R.to, R.of, B.still, B.give, e, hi]
theorem draw_tt (i : Nat) (E : CE) (xs : List D) {k : Nat} {ρ : Zw.Env} {g b c : Int} (gd : Gd k g b c) (hk : k < 1000) (h0 : ρ[0]? = some (some (.r 0))) (hi : i < ρ.length) (he : ∀ s, ev (gx 59) E ρ s = .ok (.t (.lst xs)) s) (hx : xs ≠ []) (hl : xs.length < 1000) :
    ∃ v g' b' c', Zw.execs (gx 59) [.asg i (.call 76 [(.var 0), E]), .frz i] ρ [bag g b c] = .nx (ρ.set i (some (.t v))) [bag g' b' c'] ∧ v ∈ xs ∧ Gd (k + 1) g' b' c' := by
  obtain ⟨v, g1, b1, c1, e, hv, gd1⟩ := one_of_ok 57 k gd hk hx hl
  have e : callS ((gx 59).fn 76) [.r 0, .t (.lst xs)] [bag g b c] = .ok (.t v) [bag g1 b1 c1] := cs_r2 e
  refine ⟨v, g1, b1, c1, ?_, hv, gd1⟩
  simp [Zw.execs, Zw.exec, ev, evl, he, h0, readV, R.bind, R.to, R.of, B.still, B.give, e, hi]
theorem draw_dd (i j : Nat) (E F : CE) (xs ys : List D) {k : Nat} {ρ : Zw.Env} {g b c : Int} (gd : Gd k g b c) (hk : k < 900) (h0 : ρ[0]? = some (some (.r 0))) (he : ∀ s, ev (gx 59) E ρ s = .ok (.own (.lst xs)) s) (hf : ∀ s, ev (gx 59) F ρ s = .ok (.own (.lst ys)) s) (hx : xs ≠ []) (hl : xs.length < 1000) (hy : ys ≠ []) (hm : ys.length < 1000) :
    ∃ v u g' b' c', Zw.execs (gx 59) [.asgT (.tup [.nm i, .nm j]) (.tup [(false, .call 76 [(.var 0), E]), (false, .call 76 [(.var 0), F])])] ρ [bag g b c] = .nx ((ρ.set i (some (.t v))).set j (some (.t u))) [bag g' b' c'] ∧ v ∈ xs ∧ u ∈ ys ∧ Gd (k + 2) g' b' c' := by
  obtain ⟨v, g1, b1, c1, e, hv, gd1⟩ := one_of_ok 57 k gd (by omega) hx hl
  have e : callS ((gx 59).fn 76) [.r 0, .t (.lst xs)] [bag g b c] = .ok (.t v) [bag g1 b1 c1] := cs_r2 e
  obtain ⟨u, g2, b2, c2, e2, hu, gd2⟩ := one_of_ok 57 (k + 1) gd1 (by omega) hy hm
  have e2 : callS ((gx 59).fn 76) [.r 0, .t (.lst ys)] [bag g1 b1 c1] = .ok (.t u) [bag g2 b2 c2] := cs_r2 e2
  refine ⟨v, u, g2, b2, c2, ?_, hv, hu, gd2⟩
  simp [Zw.execs, Zw.exec, ev, evl, evs, he, hf, h0, readV, R.bind, R.to, R.of, B.still, B.give, B.frz, bindT, bindTs, e, e2, Zw.line]
theorem draw_pd (i j : Nat) (E F : CE) (x : D) (ys : List D) {k : Nat} {ρ : Zw.Env} {g b c : Int} (gd : Gd k g b c) (hk : k < 900) (h0 : ρ[0]? = some (some (.r 0))) (he : ∀ s, ev (gx 59) E ρ s = .ok (.t x) s) (hf : ∀ s, ev (gx 59) F ρ s = .ok (.own (.lst ys)) s) (hy : ys ≠ []) (hm : ys.length < 1000) :
    ∃ u g' b' c', Zw.execs (gx 59) [.asgT (.tup [.nm i, .nm j]) (.tup [(false, E), (false, .call 76 [(.var 0), F])])] ρ [bag g b c] = .nx ((ρ.set i (some (.t x))).set j (some (.t u))) [bag g' b' c'] ∧ u ∈ ys ∧ Gd (k + 1) g' b' c' := by
  obtain ⟨u, g2, b2, c2, e2, hu, gd2⟩ := one_of_ok 57 k gd (by omega) hy hm
  have e2 : callS ((gx 59).fn 76) [.r 0, .t (.lst ys)] [bag g b c] = .ok (.t u) [bag g2 b2 c2] := cs_r2 e2
  refine ⟨u, g2, b2, c2, ?_, hu, gd2⟩
  simp [Zw.execs, Zw.exec, ev, evl, evs, he, hf, h0, readV, R.bind, R.to, R.of, B.still, B.give, B.frz, bindT, bindTs, e2, Zw.line]
theorem cs_o2 {F : List B → Store → R B} {a b r : D} (h : F [.t a, .t b] [] = .ok (.own r) []) (s : Store) : callS F [.t a, .t b] s = .ok (.own r) s := by
  simp [callS, List.filterMap_cons, B.ref?, getAll, renum, h, B.give, putAll]
theorem cs_o3 {F : List B → Store → R B} {a b c r : D} (h : F [.t a, .t b, .t c] [] = .ok (.own r) []) (s : Store) : callS F [.t a, .t b, .t c] s = .ok (.own r) s := by
  simp [callS, List.filterMap_cons, B.ref?, getAll, renum, h, B.give, putAll]
theorem cs_o4 {F : List B → Store → R B} {a b c d r : D} (h : F [.t a, .t b, .t c, .t d] [] = .ok (.own r) []) (s : Store) : callS F [.t a, .t b, .t c, .t d] s = .ok (.own r) s := by
  simp [callS, List.filterMap_cons, B.ref?, getAll, renum, h, B.give, putAll]
end Law
set_option linter.all false
set_option maxRecDepth 100000
set_option maxHeartbeats 4000000
set_option exponentiation.threshold 5000
namespace Law
open Zw PySem
abbrev landD : D := (.ins (Str.ofString "Land") [.tup [ii 2 6, ii 1 1], .int 9, .tup [.tup [.int 0, .int 0, .int 5]], .int 2, .tup [.tup [.int 0, .int 1, .int 1, .int 2, .non]]])
abbrev fineD : D := .tup [rep "burnt" 0 1, rep "whole" 0 1]
def L_other : List D := [.non, (st "land"), (.tup [(.int 9), (.int 2), (.tup []), (.tup []), (.tup [])]), (.int 7)]
def L_some : List D := [.non, (.lst [(.tup [(st "burnt"), (.int 0), (.int 1)])]), (.tup [(.tup [(st "burnt"), (.int 0), (.int 1)]), (.tup [(st "whole"), (.int 2), (.int 0)])]), (.tup (List.replicate 41 (.tup [(st "burnt"), (.int 0), (.int 1)])))]
def L_lot : List D := [.non, (.tup [(.int 1), (.int 0)]), (.tup [(.int 0), (.int 0)]), (.tup [(.int 2)]), (.tup [(.int (-1))]), (.tup [(.bl true)]), (.lst [(.int 0)]), (.int 0), (.tup [(.int 0), (st "1")])]
def L_wrong : List D := [(.int (-1)), (.int 2), (.bl true), .non, (st "0")]
def aE : CS → CE
  | .asg _ (.call _ [_, e]) => e
  | .asgT _ e => e
  | .par _ es => .tup (es.map fun e => (false, e))
  | _ => .dic
abbrev bE (k : Nat) : CE := aE (f__law_right.body.getD k .pass)
abbrev pE (k j : Nat) : CE := match bE k with
  | .tup es => (es.getD j (false, .dic)).2
  | _ => .dic
abbrev dE (k j : Nat) : CE := match pE k j with
  | .call _ [_, e] => e
  | _ => .dic
theorem g1 (o : D) (h : o ∈ L_other) : ∀ x l : D, md.call 59 78 [.t o, .t x, .t l] [] = .ok (.own (.lst (rp 8 (cl "land")))) [] := by
  intro x l
  simp only [L_other, List.mem_cons, List.not_mem_nil, or_false] at h
  rcases h with rfl | rfl | rfl | rfl <;> kernel_rfl
theorem g2 (o : D) (h : o ∈ L_other) : ∀ x : D, md.call 59 79 [.t o, .t x] [] = .ok (.own (.lst (rp 7 (cl "land")))) [] := by
  intro x
  simp only [L_other, List.mem_cons, List.not_mem_nil, or_false] at h
  rcases h with rfl | rfl | rfl | rfl <;> kernel_rfl
theorem g3 (x : D) (h : x ∈ L_some) : ∀ l : D, md.call 59 78 [.t landD, .t x, .t l] [] = .ok (.own (.lst (rp 8 (cl "report")))) [] := by
  intro l
  simp only [L_some, List.mem_cons, List.not_mem_nil, or_false] at h
  rcases h with rfl | rfl | rfl | rfl <;> kernel_rfl
theorem g4 (x : D) (h : x ∈ L_some) : md.call 59 79 [.t landD, .t x] [] = .ok (.own (.lst (rp 7 (cl "report")))) [] := by
  simp only [L_some, List.mem_cons, List.not_mem_nil, or_false] at h
  rcases h with rfl | rfl | rfl | rfl <;> kernel_rfl
theorem g5 (l : D) (h : l ∈ L_lot) : md.call 59 78 [.t landD, .t fineD, .t l] [] = .ok (.own (.lst (rp 8 (cl "operation")))) [] := by
  simp only [L_lot, List.mem_cons, List.not_mem_nil, or_false] at h
  rcases h with rfl | rfl | rfl | rfl | rfl | rfl | rfl | rfl | rfl <;> kernel_rfl
theorem r_1 (s : Store) (v_other : D) (v_some : D) (v_lot : D) (v_wrong : D) (m_other : v_other ∈ L_other) (m_some : v_some ∈ L_some) (m_lot : v_lot ∈ L_lot) : Zw.execs (gx 59) ((f__law_right.body.drop 7).take 2) [some (.r 0), some (.t landD), some (.t v_other), some (.t v_some), some (.t v_lot), some (.t fineD), some (.t v_wrong), none] s = .nx [some (.r 0), some (.t landD), some (.t v_other), some (.t v_some), some (.t v_lot), some (.t fineD), some (.t v_wrong), some (.t (.lst (rp 8 (cl "land") ++ rp 7 (cl "land") ++ rp 8 (cl "report") ++ rp 7 (cl "report") ++ rp 8 (cl "operation"))))] s := by
  have e1 : callS (md.call 59 78) [.t v_other, .t v_some, .t v_lot] s = _ := cs_o3 (g1 v_other m_other v_some v_lot) s
  have e2 : callS (md.call 59 79) [.t v_other, .t v_some] s = _ := cs_o2 (g2 v_other m_other v_some) s
  have e3 : callS (md.call 59 78) [.t landD, .t v_some, .t v_lot] s = _ := cs_o3 (g3 v_some m_some v_lot) s
  have e4 : callS (md.call 59 79) [.t landD, .t v_some] s = _ := cs_o2 (g4 v_some m_some) s
  have e5 : callS (md.call 59 78) [.t landD, .t fineD, .t v_lot] s = _ := cs_o3 (g5 v_lot m_lot) s
  generalize landD = ld at *
  generalize fineD = fd at *
  clear m_other m_some m_lot
  simp only [f__law_right, List.drop, List.take]
  simp [Zw.execs, Zw.exec, ev, evl, evs, readV, R.bind, R.to, R.of, B.still, B.give, B.frz, B.peek, op2, opAdd, gx_fn, e1, e2, e3, e4, e5, Zw.line]
  all_goals rfl
theorem r_2 (s : Store) (v_other : D) (v_some : D) (v_lot : D) (v_wrong : D)  : Zw.execs (gx 59) ((f__law_right.body.drop 9).take 1) [some (.r 0), some (.t landD), some (.t v_other), some (.t v_some), some (.t v_lot), some (.t fineD), some (.t v_wrong), some (.t (.lst (rp 8 (cl "land") ++ rp 7 (cl "land") ++ rp 8 (cl "report") ++ rp 7 (cl "report") ++ rp 8 (cl "operation"))))] s = .nx [some (.r 0), some (.t landD), some (.t v_other), some (.t v_some), some (.t v_lot), some (.t fineD), some (.t v_wrong), some (.t (.lst (rp 8 (cl "land") ++ rp 7 (cl "land") ++ rp 8 (cl "report") ++ rp 7 (cl "report") ++ rp 8 (cl "operation"))))] s := by
  kernel_rfl
theorem r_3 (s : Store) (v_other : D) (v_some : D) (v_lot : D) (v_wrong : D) (m_wrong : v_wrong ∈ L_wrong) : Zw.execs (gx 59) ((f__law_right.body.drop 10).take 2) [some (.r 0), some (.t landD), some (.t v_other), some (.t v_some), some (.t v_lot), some (.t fineD), some (.t v_wrong), some (.t (.lst (rp 8 (cl "land") ++ rp 7 (cl "land") ++ rp 8 (cl "report") ++ rp 7 (cl "report") ++ rp 8 (cl "operation"))))] s = .nx [some (.r 0), some (.t landD), some (.t v_other), some (.t v_some), some (.t v_lot), some (.t fineD), some (.t v_wrong), some (.t (.lst [nu v_wrong, nu (.int 12), .tup [st "many", .int 10]]))] s := by
  simp only [L_wrong, List.mem_cons, List.not_mem_nil, or_false] at m_wrong
  rcases m_wrong with rfl | rfl | rfl | rfl | rfl <;> kernel_rfl
theorem r_4 (s : Store) (v_other : D) (v_some : D) (v_lot : D) (v_wrong : D) (m_wrong : v_wrong ∈ L_wrong) : Zw.execs (gx 59) (f__law_right.body.drop 12) [some (.r 0), some (.t landD), some (.t v_other), some (.t v_some), some (.t v_lot), some (.t fineD), some (.t v_wrong), some (.t (.lst [nu v_wrong, nu (.int 12), .tup [st "many", .int 10]]))] s = .rt (.t (.bl true)) s := by
  simp only [L_wrong, List.mem_cons, List.not_mem_nil, or_false] at m_wrong
  rcases m_wrong with rfl | rfl | rfl | rfl | rfl <;> kernel_rfl
theorem right_ok {k : Nat} {g b c : Int} (gd : Gd k g b c) (hk : k < 700) : ∃ g' b' c', md.call 60 80 [.r 0, .t landD] [bag g b c] = .ok (.t (.bl true)) [bag g' b' c'] ∧ Gd (k + 4) g' b' c' := by
  obtain ⟨v_other, g1, b1, c1, e1, m_other, gd1⟩ := draw_st 2 (bE 0) L_other (ρ := [some (.r 0), some (.t landD), none, none, none, none, none, none]) gd (by omega) rfl (by simp) (fun s => by kernel_rfl) (by simp [L_other]) (by simp [L_other])
  obtain ⟨v_some, g2, b2, c2, e2, m_some, gd2⟩ := draw_st 3 (bE 2) L_some (ρ := [some (.r 0), some (.t landD), some (.t v_other), none, none, none, none, none]) gd1 (by omega) rfl (by simp) (fun s => by kernel_rfl) (by simp [L_some]) (by simp [L_some])
  obtain ⟨v_lot, g3, b3, c3, e3, m_lot, gd3⟩ := draw_st 4 (bE 4) L_lot (ρ := [some (.r 0), some (.t landD), some (.t v_other), some (.t v_some), none, none, none, none]) gd2 (by omega) rfl (by simp) (fun s => by kernel_rfl) (by simp [L_lot]) (by simp [L_lot])
  obtain ⟨v_wrong, g4, b4, c4, e4, m_wrong, gd4⟩ := draw_pd 5 6 (pE 6 0) (dE 6 1) (fineD : D) L_wrong (ρ := [some (.r 0), some (.t landD), some (.t v_other), some (.t v_some), some (.t v_lot), none, none, none]) gd3 (by omega) rfl (fun s => by kernel_rfl) (fun s => by kernel_rfl) (by simp [L_wrong]) (by simp [L_wrong])
  refine ⟨g4, b4, c4, ?_, gd4⟩
  rw [u__law_right]
  have tot : Zw.execs (gx 59) f__law_right.body (enter f__law_right [.r 0, .t landD]) [bag g b c] = .rt (.t (.bl true)) [bag g4 b4 c4] := by
    refine (execs_nx 2 e1).trans ?_
    refine (execs_nx 2 e2).trans ?_
    refine (execs_nx 2 e3).trans ?_
    refine (execs_nx 1 e4).trans ?_
    refine (execs_nx 2 (r_1 _ v_other v_some v_lot v_wrong m_other m_some m_lot)).trans ?_
    refine (execs_nx 1 (r_2 _ v_other v_some v_lot v_wrong)).trans ?_
    refine (execs_nx 2 (r_3 _ v_other v_some v_lot v_wrong m_wrong)).trans ?_
    exact (r_4 _ v_other v_some v_lot v_wrong m_wrong)
  unfold runF
  rw [if_pos (show [B.r 0, B.t landD].length = f__law_right.params from rfl), tot]
  rfl
end Law
set_option linter.all false
set_option maxRecDepth 100000
set_option maxHeartbeats 4000000
set_option exponentiation.threshold 5000
namespace Law
open Zw PySem
abbrev cR : CE := .comp 1 [(.cst (.int 2))] (.nm 4) [4] [(.notv (.call 80 [(.var 3), (.var 1)]))] (.cst (.int 1))
abbrev rL (L : D) (o1 : Option B) (o2 : Option B) : Zw.Env := [some (.sc L), some (.t landD), o1, o2, none, none, none]
theorem rights_ok (L x : D) {g b c : Int} (h : Gd 0 g b c) : ∃ g' b' c', ev (gx 60) cR (rL L (some (.t x)) (some (.r 0))) [bag g b c] = .ok (.own (.lst [])) [bag g' b' c'] := by
  have step : ∀ (k : Nat) (z : D) (g b c : Int), Gd k g b c → k < 700 → ∃ g' b' c', turnC (gx 60) (.nm 4) [4] [(.notv (.call 80 [(.var 3), (.var 1)]))] (.cst (.int 1)) (rL L (some (.t x)) (some (.r 0))) z [bag g b c] = .ok none [bag g' b' c'] ∧ Gd (k + 4) g' b' c' := by
    intro k z g b c gd hk
    obtain ⟨g', b', c', e, gd'⟩ := right_ok gd (by omega)
    have e : callS (md.call 60 80) [.r 0, .t landD] [bag g b c] = .ok (.t (.bl true)) [bag g' b' c'] := cs_r2 e
    refine ⟨g', b', c', ?_, gd'⟩
    unfold rL
    generalize landD = ld at *
    simp [gx_fn, runF, enter, B.par, Zw.execs, Zw.exec, Zw.ev, evl, evs, evg, evO, evAnd, evOr, evConds, evT, R.bind, R.to, R.of, readV, truB, B.look, B.peek, B.frz, B.give, B.still, B.bl?, D.tru, op2, opAdd, opSub, opMul, opMod, opFdiv, opPow, cmp2, cmLt, cmI, cmN, cmIn, D.isNon, D.isBl, bi1, bi2, biLen, biAbs, biInt, biAll, biTuple, biList, biSum, bi2I, ty_int, ty_bool, ty_tup, blsOf, Zw.still, ixD, ixN, itemsD, wipe, bindT, bindTs, seens, B.seen, Zw.walk, frzs, setAll, gives, eqOk_int, eqB_int, compL, len2, len3, eqOk_pt, eqB_pt, lstAt, lstPut, slice, cut, sIx, Zw.line, tellR, tlFind, enumD, zipD, zipS, turnC, e]
  obtain ⟨g1, b1, c1, e1, gd1⟩ := step 0 (.int 0) g b c h (by omega)
  obtain ⟨g2, b2, c2, e2, gd2⟩ := step 4 (.int 1) g1 b1 c1 gd1 (by omega)
  refine ⟨g2, b2, c2, ?_⟩
  refine ev_comp_st (bs := [.t (.int 2)]) (s1 := [bag g b c]) (xs := [.int 0, .int 1]) (by simp [evl, ev, R.bind, B.still]) rfl ?_
  generalize turnC (gx 60) (.nm 4) [4] [(.notv (.call 80 [(.var 3), (.var 1)]))] (.cst (.int 1)) (rL L (some (.t x)) (some (.r 0))) = T at *
  simp [compL, e1, e2]
theorem loop_ok (ns : List Int) (hn : ns.length ≤ 63) : ∃ o, Zw.execs (gx 60) ((f_law.body.drop 2).take 1) (rL (.lst (ns.map D.int)) none none) [] = .nx (rL (.lst (ns.map D.int)) o none) [] := by
  generalize hK : (if (if (ns.length : Int) < 2 then (ns.length : Int) else 2) > 1 then (if (ns.length : Int) < 2 then (ns.length : Int) else 2) else 1) = K
  have k1 : 1 ≤ K := by rw [← hK]; split <;> omega
  have k4 : K ≤ 2 := by rw [← hK]; split <;> split <;> omega
  have hits : evl (gx 60) [(.b2 .max2 (.cst (.int 1)) (.b2 .min2 (.cst (.int 2)) (.b1 .len (.var 0))))] (rL (.lst (ns.map D.int)) none none) [] = .ok [.t (.int K)] [] := by
    generalize landD = ld
    simp [gx_fn, runF, enter, B.par, Zw.execs, Zw.exec, Zw.ev, evl, evs, evg, evO, evAnd, evOr, evConds, evT, R.bind, R.to, R.of, readV, truB, B.look, B.peek, B.frz, B.give, B.still, B.bl?, D.tru, op2, opAdd, opSub, opMul, opMod, opFdiv, opPow, cmp2, cmLt, cmI, cmN, cmIn, D.isNon, D.isBl, bi1, bi2, biLen, biAbs, biInt, biAll, biTuple, biList, biSum, bi2I, ty_int, ty_bool, ty_tup, blsOf, Zw.still, ixD, ixN, itemsD, wipe, bindT, bindTs, seens, B.seen, Zw.walk, frzs, setAll, gives, eqOk_int, eqB_int, compL, len2, len3, eqOk_pt, eqB_pt, lstAt, lstPut, slice, cut, sIx, Zw.line, tellR, tlFind, enumD, zipD, zipS]
    exact hK
  have hwalk : (frzs [.t (.int K)]).bind (walk 1) = some ((List.range K.toNat).map fun (k : Nat) => D.int (0 + (k : Int))) := by
    show rangeD 0 K = _
    unfold rangeD
    rw [if_pos ⟨by decide, by decide, by omega, by omega⟩, Int.sub_zero]
  obtain ⟨ρ', s', e, rfl, o, rfl⟩ := forLc_inv (n := 0) (f := fun x ρ s => match bindT (.nm 2) x ρ with
          | none => .bad
          | some ρ => Zw.execs (gx 60) [(.asg 3 (.call 74 [(.var 0), (.var 2)])), (.mv 3), (.ite (.cmp .ne cR (.lst [])) [(.ret (.cst (.bl false)))] [])] ρ s)
      (fun ρ s => s = [] ∧ ∃ o, ρ = rL (.lst (ns.map D.int)) o none) ((List.range K.toNat).map fun (k : Nat) => D.int (0 + (k : Int))) (fun x hx ρ s hp => by
    obtain ⟨rfl, o, rfl⟩ := hp
    obtain ⟨k, hk, rfl⟩ := List.mem_map.mp hx
    have hk := List.mem_range.mp hk
    obtain ⟨g, b, e1, gd⟩ := bag_ok 59 (ns := ns) (at_ := 0 + (k : Int)) (by omega) (by omega)
    have e1 := cs_st e1
    obtain ⟨g', b', c', e2⟩ := rights_ok (.lst (ns.map D.int)) (.int (0 + (k : Int))) gd
    generalize (0 + (k : Int)) = kk at *
    generalize cR = C at *
    have he : eqOk (.lst []) (.lst []) = true := rfl
    have hb : eqB (.lst []) (.lst []) = true := rfl
    refine ⟨rL (.lst (ns.map D.int)) (some (.t (.int kk))) (some (.r 0)), [bag g' b' c'], ?_, rfl, some (.t (.int kk)), rfl⟩
    unfold rL at *
    generalize landD = ld at *
    simp [gx_fn, runF, enter, B.par, Zw.execs, Zw.exec, Zw.ev, evl, evs, evg, evO, evAnd, evOr, evConds, evT, R.bind, R.to, R.of, readV, truB, B.look, B.peek, B.frz, B.give, B.still, B.bl?, D.tru, op2, opAdd, opSub, opMul, opMod, opFdiv, opPow, cmp2, cmLt, cmI, cmN, cmIn, D.isNon, D.isBl, bi1, bi2, biLen, biAbs, biInt, biAll, biTuple, biList, biSum, bi2I, ty_int, ty_bool, ty_tup, blsOf, Zw.still, ixD, ixN, itemsD, wipe, bindT, bindTs, seens, B.seen, Zw.walk, frzs, setAll, gives, eqOk_int, eqB_int, compL, len2, len3, eqOk_pt, eqB_pt, lstAt, lstPut, slice, cut, sIx, Zw.line, tellR, tlFind, enumD, zipD, zipS, e1, e2, he, hb]) (rL (.lst (ns.map D.int)) none none) [] ⟨rfl, none, rfl⟩
  refine ⟨o, ?_⟩
  show Zw.execs (gx 60) [.for_ true 1 [(.b2 .max2 (.cst (.int 1)) (.b2 .min2 (.cst (.int 2)) (.b1 .len (.var 0))))] (.nm 2) [(.asg 3 (.call 74 [(.var 0), (.var 2)])), (.mv 3), (.ite (.cmp .ne cR (.lst [])) [(.ret (.cst (.bl false)))] [])]] _ _ = _
  rw [Zw.execs, exec_for_of hits hwalk]
  have key : ∀ r : RS, r = .nx (rL (.lst (ns.map D.int)) o none) [] → (match r with
      | .nx ρ' s' => Zw.execs (gx 60) [] ρ' s'
      | r => r) = .nx (rL (.lst (ns.map D.int)) o none) [] := fun r h => by rw [h]; simp [Zw.execs]
  exact key _ e
theorem main (ns : List Int) (hn : ns.length ≤ 63) (_ : ∀ x ∈ ns, Builtin.Int.intBits x ≤ 1048576) : md.call (60 + 1) 81 [.sc (.lst (ns.map D.int))] [] = .ok (.t (.bl true)) [] := by
  obtain ⟨o, e⟩ := loop_ok ns hn
  rw [u_law]
  have e0 : Zw.execs (gx 60) (f_law.body.take 2) (enter f_law [.sc (.lst (ns.map D.int))]) [] = .nx (rL (.lst (ns.map D.int)) none none) [] := by
    generalize D.lst (ns.map D.int) = L
    kernel_rfl
  have t : Zw.execs (gx 60) (f_law.body.drop 3) (rL (.lst (ns.map D.int)) o none) [] = .rt (.t (.bl true)) [] := by
    generalize D.lst (ns.map D.int) = L
    kernel_rfl
  have tot : Zw.execs (gx 60) f_law.body (enter f_law [.sc (.lst (ns.map D.int))]) [] = .rt (.t (.bl true)) [] := (execs_nx 2 e0).trans ((execs_nx 1 e).trans t)
  unfold runF
  rw [if_pos (show [B.sc (.lst (ns.map D.int))].length = f_law.params from rfl), tot]
  rfl
end Law
set_option maxHeartbeats 0
open PySem PySem.W PySem.Calls PyProof.Rows in
theorem PySem.Challenge.cw_leastburn_k48_errors_of_lies_holds : PySem.Challenge.rw_leastburn_k48_errors_of_lies.Holds := by
  w_on; o_law
  refine HandSHeadRun.head_any (r := OpenLaw.row PySem.Challenge.rw_leastburn_k48_errors_of_lies) (q := view (OpenLaw.row PySem.Challenge.rw_leastburn_k48_errors_of_lies).prog [132]) (H := Law.lw.hook 5) (ob := Law.lw.ob 5) (M := 20000) (loose := Law.loose)
    (d := HandSHeadRun.topDef (OpenLaw.row PySem.Challenge.rw_leastburn_k48_errors_of_lies).prog 132) (kwd := []) (Zw.Lw.ob_eq Law.lw 5)
    (by kernel_rfl) (fun s => by kernel_rfl) Law.run (by kernel_rfl) (by kernel_rfl) (by kernel_rfl)
    (by rfl) (by first | assumption | decide +kernel) (by decide +kernel)
    ⟨rfl, rfl, rfl, rfl, rfl, by decide +kernel⟩ ?hw ?hc
  case hw => w_witness2
  case hc =>
    exact Zw.law_end (l := PySem.Challenge.rw_leastburn_k48_errors_of_lies) (L := Law.lw) (m := 80) (k := 60) (j := 81) (n := 63)
      (i := Law.i_law) rfl (by decide) (by kernel_rfl) Law.lw_ok Law.lw_binds ⟨rfl, by decide, by decide⟩
      rfl (by kernel_rfl) (by first | exact fun h => absurd rfl h | exact fun _ => ⟨by kernel_rfl, by kernel_rfl⟩) (by rw [Law.md_eq]; exact Law.main)
