import PyProof.Rows.All
import PyProof.P3Statements
import PyProof.EqLayable
import PyProof.ReprReads
import Wide.All
import OpenK.AllK
import Wide.FinOn
import HandS.ForMost
import HandS.Exc
import HandS.TryOnly
import HandS.ExcOwn
import HandS.WordsExc
import HandS.Defaults
import HandS.Wide
import HandS.Gcd
import HandS.TupAny
import HandS.TupMul
import HandS.Star
import HandS.Deep
import HandS.Flow
import HandS.Style
import HandS.Zip
import HandS.More
import HandS.Lambda
import HandS.HeadHook4
import HandS.IsInst
import KE.GoesMore
import HandS.Base
import HandS.Call
import HandS.List
import HandS.Iter
import HandS.Head0
import HandS.Head1
import HandS.Head2
import HandS.HeadEnd
import HandS.HeadHook1
import HandS.HeadHook2
import HandS.EndBits
import PyProof.FitsInt
import PyProof.StrLawsRepr
import HandS.Head3
import PySem.Challenge.RW_leastburn_k72_errors_of_points
set_option linter.all false
set_option maxRecDepth 100000
/-! Zw0: a small interpreter of the Python that the linked texts use: values as trees, a store for what callees change. -/
namespace Zw
open PySem
/-- a value as a tree -/
inductive D where
  | non | bl (b : Bool) | int (i : Int) | str (s : Str)
  | tup (xs : List D) | lst (xs : List D)
  | ins (c : Nat) (fs : List D)
  /-- a new dict, nothing in it -/
  | dic
  deriving Inhabited
mutual
def D.py : D → PyData
  | .non => .none
  | .bl b => .bool b
  | .int i => .int i
  | .str s => .str s
  | .tup xs => .tuple (D.pys xs)
  | .lst xs => .list (D.pys xs)
  | .ins _ _ => .none
  | .dic => .none
def D.pys : List D → List PyData
  | [] => []
  | x :: xs => x.py :: D.pys xs
end
mutual
/-- no instance within -/
def D.plain : D → Bool
  | .non => true
  | .bl _ => true
  | .int _ => true
  | .str _ => true
  | .tup xs => D.plains xs
  | .lst xs => D.plains xs
  | .ins _ _ => false
  | .dic => false
def D.plains : List D → Bool
  | [] => true
  | x :: xs => x.plain && D.plains xs
end
/-- what a slot holds, what an expression gives: a tree; a fresh list of one's own; a list that may be looked at alone; the script; a place of the store -/
inductive B where
  | t (d : D) | own (d : D) | bor (d : D) | sc (d : D) | r (k : Nat)
  deriving Inhabited
inductive O where
  | lst (xs : List D)
  deriving Inhabited
abbrev Store := List O
abbrev Env := List (Option B)
inductive R (α : Type) where
  | ok (a : α) (s : Store)
  | ex (c : Nat) (p : List D) (s : Store)
  | bad
inductive RS where
  | nx (ρ : Env) (s : Store)
  | rt (b : B) (s : Store)
  | bk (ρ : Env) (s : Store)
  | ct (ρ : Env) (s : Store)
  | ex (c : Nat) (p : List D) (ρ : Env) (s : Store)
  | bad
def R.bind {α β : Type} (x : R α) (f : α → Store → R β) : R β := match x with
  | .ok a s => f a s
  | .ex c p s => .ex c p s
  | .bad => .bad
def R.to {α : Type} (x : R α) (ρ : Env) (f : α → Store → RS) : RS := match x with
  | .ok a s => f a s
  | .ex c p s => .ex c p ρ s
  | .bad => .bad
def R.of {α : Type} (o : Option α) (s : Store) : R α := match o with
  | some a => .ok a s
  | none => .bad
def B.frz : B → Option D
  | .t d => some d
  | .own d => some d
  | _ => none
def B.peek (s : Store) : B → Option D
  | .t d => some d
  | .own d => some d
  | .bor d => some d
  | .sc _ => none
  | .r k => match s[k]? with
    | some (.lst xs) => some (.lst xs)
    | none => none
/-- what may be looked at, the script too -/
def B.look (s : Store) : B → Option D
  | .sc d => some d
  | b => b.peek s
def B.still : B → B
  | .own d => .t d
  | b => b
/-- what a name may be given -/
def B.give : B → Option B
  | .t d => some (.t d)
  | .own d => some (.own d)
  | _ => none
def line : Nat := 16777216
/-! ### operators -/
inductive Op2 where
  | add | sub | mul | mod | fdiv | pow
  deriving DecidableEq
inductive Cm where
  | eq | ne | lt | le | gt | ge | isN | notN | in_ | notIn
  deriving DecidableEq
def D.tru : D → Option Bool
  | .non => some false
  | .bl b => some b
  | .int i => some (i != 0)
  | .str s => if s.length ≤ line then some (s.length != 0) else none
  | .tup xs => some (!xs.isEmpty)
  | .lst xs => some (!xs.isEmpty)
  | .ins _ _ => none
  | .dic => none
def mulOk (i j : Int) : Bool := decide (i.natAbs.log2 + j.natAbs.log2 < 1000000)
def powOk (i j : Int) : Bool := decide (0 ≤ j) && decide (((i.natAbs.log2 + 1 : Nat) : Int) * j ≤ 134217728)
def opAdd : D → D → Option B
  | .int i, .int j => some (.t (.int (i + j)))
  | .str x, .str y => if x.length + y.length ≤ line then some (.t (.str (x ++ y))) else none
  | .lst xs, .lst ys => if xs.length + ys.length ≤ line then some (.own (.lst (xs ++ ys))) else none
  | .tup xs, .tup ys => if xs.length + ys.length ≤ line then some (.t (.tup (xs ++ ys))) else none
  | _, _ => none
def opSub : D → D → Option B
  | .int i, .int j => some (.t (.int (i - j)))
  | _, _ => none
def opMul : D → D → Option B
  | .int i, .int j => if mulOk i j then some (.t (.int (i * j))) else none
  | .lst xs, .int k => if k < 2 ^ 40 ∧ -(2 ^ 40) < k ∧ xs.length * k.toNat ≤ line then some (.own (.lst (List.replicate k.toNat xs).flatten)) else none
  | .tup xs, .int k => if xs.length ≠ 0 ∧ 2 ≤ k ∧ k ≤ 1000 ∧ xs.length ≤ 1000 then some (.t (.tup (List.replicate k.toNat xs).flatten)) else none
  | _, _ => none
def opMod : D → D → Option B
  | .int i, .int j => if 0 < j then some (.t (.int (i % j))) else none
  | _, _ => none
def opFdiv : D → D → Option B
  | .int i, .int j => if 0 < j ∧ j.natAbs.log2 < 9000 then some (.t (.int (i / j))) else none
  | _, _ => none
def opPow : D → D → Option B
  | .int i, .int j => if powOk i j then some (.t (.int (i ^ j.toNat))) else none
  | _, _ => none
def op2 : Op2 → D → D → Option B
  | .add => opAdd
  | .sub => opSub
  | .mul => opMul
  | .mod => opMod
  | .fdiv => opFdiv
  | .pow => opPow
def strs2 : D → D → Bool
  | .str _, .str _ => true
  | _, _ => false
def eqOk (a b : D) : Bool := strs2 a b || a.plain && b.plain && SeqAt.shaped a.py && SeqAt.shaped b.py
def eqB (a b : D) : Bool := PyData.eqv a.py b.py
def D.flat : D → Bool
  | .non => true
  | .bl _ => true
  | .int _ => true
  | .str _ => true
  | _ => false
def intsOf : List D → Option (List Int)
  | [] => some []
  | .int i :: r => (intsOf r).map (i :: ·)
  | _ => none
def lexLt : List Int → List Int → Bool
  | [], [] => false
  | [], _ :: _ => true
  | _ :: _, [] => false
  | x :: xs, y :: ys => if x = y then lexLt xs ys else decide (x < y)
def memOk (a : D) (xs : List D) : Bool := a.flat && xs.all D.flat
def memB (a : D) (xs : List D) : Bool := xs.any fun y => eqB y a
def cmLt : D → D → Option Bool
  | .int i, .int j => some (decide (i < j))
  | .tup xs, .tup ys => match intsOf xs, intsOf ys with
    | some ns, some ms => some (lexLt ns ms)
    | _, _ => none
  | _, _ => none
def cmI (p : Int → Int → Bool) : D → D → Option Bool
  | .int i, .int j => some (p i j)
  | _, _ => none
def D.isNon : D → Bool
  | .non => true
  | _ => false
def cmN (k : Bool) : D → D → Option Bool
  | a, .non => some (a.isNon == k)
  | _, _ => none
def cmIn (k : Bool) (a : D) : D → Option Bool
  | .lst xs => if memOk a xs then some (memB a xs == k) else none
  | .tup xs => if memOk a xs then some (memB a xs == k) else none
  | _ => none
def cmp2 : Cm → D → D → Option Bool
  | .eq => fun a b => if eqOk a b then some (eqB a b) else none
  | .ne => fun a b => if eqOk a b then some (!eqB a b) else none
  | .lt => cmLt
  | .le => cmI fun i j => decide (i ≤ j)
  | .gt => cmI fun i j => decide (j < i)
  | .ge => cmI fun i j => decide (j ≤ i)
  | .isN => cmN true
  | .notN => cmN false
  | .in_ => cmIn true
  | .notIn => cmIn false
/-! ### places, slices -/
def ixN (n : Nat) (i : Int) : Option Nat := if 0 ≤ i then (if i < n then some i.toNat else none) else if -(n : Int) ≤ i then some (i + n).toNat else none
def ixD {α : Type} (xs : List α) (i : Int) : Option α := (ixN xs.length i).bind fun j => xs[j]?
def sIx (n d : Nat) : Option Int → Nat
  | none => d
  | some v => if v < 0 then (v + n).toNat else min v.toNat n
def cut {α : Type} (xs : List α) (lo hi : Option Int) : List α := (xs.drop (sIx xs.length 0 lo)).take (sIx xs.length xs.length hi - sIx xs.length 0 lo)
def intO : Option D → Option (Option Int)
  | none => some none
  | some (.int i) => some (some i)
  | _ => none
def slice (d : D) (lo hi : Option Int) : Option B := match d with
  | .tup xs => some (.t (.tup (cut xs lo hi)))
  | .lst xs => some (.own (.lst (cut xs lo hi)))
  | _ => none
/-! ### built-ins -/
inductive Ty where
  | int | bool | tuple | list | str | dict | cls (c : Nat)
  deriving DecidableEq
def isTy : Ty → D → Bool
  | .int, .int _ => true
  | .int, .bl _ => true
  | .bool, .bl _ => true
  | .tuple, .tup _ => true
  | .list, .lst _ => true
  | .str, .str _ => true
  | .dict, .dic => true
  | .cls c, .ins c' _ => c == c'
  | _, _ => false
inductive Bi where
  | len | abs | max2 | min2 | int | all | any | repr | tuple | list | sum | gcd | isi (ty : Ty)
  deriving DecidableEq
def blsOf : List D → Option (List Bool)
  | [] => some []
  | .bl b :: r => (blsOf r).map (b :: ·)
  | _ => none
/-- what repr may be asked of -/
def reprOk (d : D) : Bool := d.plain && d.py.showable && decide (d.py.depth ≤ 64) && decide (d.py.shown.length ≤ line)
def biLen : D → Option B
  | .tup xs => some (.t (.int xs.length))
  | .lst xs => some (.t (.int xs.length))
  | .str s => if s.length ≤ line then some (.t (.int s.length)) else none
  | _ => none
def biAbs : D → Option B
  | .int i => some (.t (.int (if i < 0 then -i else i)))
  | _ => none
def biInt : D → Option B
  | .int i => some (.t (.int i))
  | .bl b => some (.t (.int (if b then 1 else 0)))
  | _ => none
def biAll (f : List Bool → Bool) : D → Option B
  | .lst xs => (blsOf xs).map fun bs => .t (.bl (f bs))
  | _ => none
def biTuple : D → Option B
  | .tup xs => some (.t (.tup xs))
  | .lst xs => some (.t (.tup xs))
  | _ => none
def biList : D → Option B
  | .tup xs => some (.own (.lst xs))
  | .lst xs => some (.own (.lst xs))
  | _ => none
def biSum : D → Option B
  | .lst xs => (intsOf xs).map fun ns => .t (.int ns.sum)
  | _ => none
def bi1 : Bi → D → Option B
  | .len => biLen
  | .abs => biAbs
  | .int => biInt
  | .all => biAll fun bs => bs.all id
  | .any => biAll fun bs => bs.any id
  | .repr => fun d => if reprOk d then some (.t (.str d.py.shown)) else none
  | .tuple => biTuple
  | .list => biList
  | .sum => biSum
  | .isi ty => fun d => some (.t (.bl (isTy ty d)))
  | _ => fun _ => none
def bi2I (f : Int → Int → Int) : D → D → Option B
  | .int i, .int j => some (.t (.int (f i j)))
  | _, _ => none
def bi2 : Bi → D → D → Option B
  | .max2 => bi2I fun i j => if j > i then j else i
  | .min2 => bi2I fun i j => if j < i then j else i
  | .gcd => bi2I fun i j => (Int.gcd i j : Nat)
  | _ => fun _ _ => none
/-! ### the core -/
inductive Tg where
  | nm (i : Nat)
  | tup (ts : List Tg)
mutual
def bindT : Tg → D → Env → Option Env
  | .nm i, d, ρ => some (ρ.set i (some (.t d)))
  | .tup ts, .tup xs, ρ => bindTs ts xs ρ
  | .tup _, _, _ => none
def bindTs : List Tg → List D → Env → Option Env
  | [], [], ρ => some ρ
  | t :: ts, x :: xs, ρ => (bindT t x ρ).bind (bindTs ts xs)
  | _, _, _ => none
end
inductive CE where
  | var (i : Nat)
  | cst (d : D)
  | gc (g : Nat)
  | bin (op : Op2) (a b : CE)
  | neg (a : CE)
  | notv (a : CE)
  | andv (es : List CE)
  | orv (es : List CE)
  | cmp (op : Cm) (a b : CE)
  | chain (o1 o2 : Cm) (a b c : CE)
  | ife (c a b : CE)
  | tup (es : List (Bool × CE))
  | lst (es : List (Bool × CE))
  | ix (a b : CE)
  | sl (a : CE) (lo hi : Option CE)
  | call (f : Nat) (es : List CE)
  | b1 (f : Bi) (a : CE)
  | b2 (f : Bi) (a b : CE)
  | comp (kind : Nat) (its : List CE) (tg : Tg) (own : List Nat) (conds : List CE) (elt : CE)
  /-- f(lambda: e) -/
  | tell (t : Nat) (e : CE)
  | dic
/-- what is walked: kind 0: items of a value, 1: range(n), 2: range(a, b), 3: enumerate(x), 4: zip(x, y) -/
def itemsD : D → Option (List D)
  | .tup xs => some xs
  | .lst xs => some xs
  | _ => none
def rangeD (lo hi : Int) : Option (List D) :=
  if -(2 ^ 62) ≤ lo ∧ lo < 2 ^ 62 ∧ -(2 ^ 62) ≤ hi ∧ hi < 2 ^ 62 then some ((List.range (hi - lo).toNat).map fun (k : Nat) => D.int (lo + (k : Int))) else none
def enumD (xs : List D) : List D := xs.zipIdx.map fun p => .tup [.int p.2, p.1]
def zipD (xs ys : List D) : List D := (xs.zip ys).map fun p => .tup [p.1, p.2]
/-- two lists, two tuples -/
def zipS : D → D → Option (List D)
  | .tup xs, .tup ys => some (zipD xs ys)
  | .lst xs, .lst ys => some (zipD xs ys)
  | _, _ => none
def walk : Nat → List D → Option (List D)
  | 0, [d] => itemsD d
  | 1, [.int n] => rangeD 0 n
  | 2, [.int a, .int b] => rangeD a b
  | 3, [d] => (itemsD d).map enumD
  | 4, [d, e] => zipS d e
  | _, _ => none
/-- what a walk may go over: no place of the store -/
def B.seen : B → Option D
  | .t d => some d
  | .own d => some d
  | .bor d => some d
  | .sc d => some d
  | .r _ => none
def seens : List B → Option (List D)
  | [] => some []
  | b :: r => b.seen.bind fun d => (seens r).map (d :: ·)
def frzs : List B → Option (List D)
  | [] => some []
  | b :: r => b.frz.bind fun d => (frzs r).map (d :: ·)
/-- all turns of a comprehension -/
def compL (f : D → Store → R (Option D)) : List D → List D → Store → R (List D)
  | [], acc, s => .ok acc s
  | x :: xs, acc, s => match f x s with
    | .ok (some d) s' => if acc.length < line then compL f xs (acc ++ [d]) s' else .bad
    | .ok none s' => compL f xs acc s'
    | _ => .bad
def wipe (ρ : Env) : List Nat → Env
  | [] => ρ
  | i :: is => (wipe ρ is).set i none
/-! ### calls -/
def B.ref? : B → Option Nat
  | .r k => some k
  | _ => none
def renum : List B → Nat → List B
  | [], _ => []
  | .r _ :: r, n => .r n :: renum r (n + 1)
  | b :: r, n => b :: renum r n
def getAll (s : Store) : List Nat → Option (List O)
  | [] => some []
  | k :: r => s[k]?.bind fun o => (getAll s r).map (o :: ·)
def putAll (s : Store) : List Nat → List O → Store
  | [], _ => s
  | _ :: _, [] => s
  | k :: ks, o :: os => putAll (s.set k o) ks os
def callS (F : List B → Store → R B) (args : List B) (s : Store) : R B :=
  let ks := args.filterMap B.ref?
  if ks.Nodup then
    match getAll s ks with
    | some os => match F (renum args 0) os with
      | .ok b os' => match b.give with
        | some b => .ok b (putAll s ks os')
        | none => .bad
      | .ex c p os' => .ex c p (putAll s ks os')
      | .bad => .bad
    | none => .bad
  else .bad
/-- a def that calls the thing that it gets, first of all: whether it answers what that answers; the clauses, each with what it answers; what it answers at last -/
structure Tl where
  keep : Bool
  hs : List (Nat × D)
  fin : D
def tlFind (sub : Nat → Nat → Bool) (c : Nat) : List (Nat × D) → Option D
  | [] => none
  | (h, d) :: r => if sub c h then some d else tlFind sub c r
def tellR (sub : Nat → Nat → Bool) (t : Tl) : R B → R B
  | .ok b s => if t.keep then (match b.give with
    | some b => .ok b s
    | none => .bad) else .ok (.t t.fin) s
  | .ex c _ s => match tlFind sub c t.hs with
    | some d => .ok (.t d) s
    | none => .bad
  | .bad => .bad
/-- the functions, the module's constants -/
structure Gx where
  fn : Nat → List B → Store → R B
  gc : Nat → Option D
  /-- the functions two calls further down -/
  fn2 : Nat → List B → Store → R B := fun _ _ _ => .bad
  /-- is the first class the second, or below it -/
  sub : Nat → Nat → Bool := fun _ _ => false
  tl : Nat → Option Tl := fun _ => none
def Gx.low (G : Gx) : Gx := ⟨G.fn2, G.gc, fun _ _ _ => .bad, G.sub, fun _ => none⟩
def readV : Option (Option B) → Option B
  | some (some (.own d)) => some (.bor d)
  | some (some b) => some b
  | _ => none
def B.bl? : B → Option Bool
  | .t (.bl b) => some b
  | _ => none
def truB (b : B) (s : Store) : Option Bool := (b.look s).bind D.tru
mutual
def ev : Gx → CE → Env → Store → R B
  | G, .var i, ρ, s => .of (readV ρ[i]?) s
  | G, .cst d, _, s => .ok (.t d) s
  | G, .gc g, _, s => .of ((G.gc g).map .t) s
  | G, .bin op a b, ρ, s => (ev G a ρ s).bind fun x s => (ev G b ρ s).bind fun y s =>
      .of ((x.peek s).bind fun x => (y.peek s).bind fun y => op2 op x y) s
  | G, .neg a, ρ, s => (ev G a ρ s).bind fun x s => match x with
      | .t (.int i) => .ok (.t (.int (-i))) s
      | _ => .bad
  | G, .notv a, ρ, s => (ev G a ρ s).bind fun x s => .of ((truB x s).map fun b => .t (.bl (!b))) s
  | G, .andv es, ρ, s => evAnd G es ρ s
  | G, .orv es, ρ, s => evOr G es ρ s
  | G, .cmp op a b, ρ, s => (ev G a ρ s).bind fun x s => (ev G b ρ s).bind fun y s =>
      .of ((x.peek s).bind fun x => (y.peek s).bind fun y => (cmp2 op x y).map fun b => .t (.bl b)) s
  | G, .chain o1 o2 a b c, ρ, s => (ev G a ρ s).bind fun x s => (ev G b ρ s).bind fun y s =>
      match (x.peek s).bind fun x => (y.peek s).bind fun y => cmp2 o1 x y with
      | some true => (ev G c ρ s).bind fun z s => .of ((y.peek s).bind fun y => (z.peek s).bind fun z => (cmp2 o2 y z).map fun b => .t (.bl b)) s
      | some false => .ok (.t (.bl false)) s
      | none => .bad
  | G, .ife c a b, ρ, s => (ev G c ρ s).bind fun x s => match truB x s with
      | some true => ev G a ρ s
      | some false => ev G b ρ s
      | none => .bad
  | G, .tup es, ρ, s => (evs G es ρ s).bind fun xs s => if xs.length ≤ line then .ok (.t (.tup xs)) s else .bad
  | G, .lst es, ρ, s => (evs G es ρ s).bind fun xs s => if xs.length ≤ line then .ok (.own (.lst xs)) s else .bad
  | G, .ix a b, ρ, s => (ev G a ρ s).bind fun x s => (ev G b ρ s).bind fun y s => match x.look s, y with
      | some (.tup xs), .t (.int i) => .of ((ixD xs i).map .t) s
      | some (.lst xs), .t (.int i) => .of ((ixD xs i).map .t) s
      | _, _ => .bad
  | G, .sl a lo hi, ρ, s => (ev G a ρ s).bind fun x s => (evO G lo ρ s).bind fun lo s => (evO G hi ρ s).bind fun hi s =>
      .of ((x.look s).bind fun d => slice d lo hi) s
  | G, .call f es, ρ, s => (evl G es ρ s).bind fun bs s => callS (G.fn f) bs s
  | G, .b1 f a, ρ, s => (ev G a ρ s).bind fun x s => .of ((x.look s).bind (bi1 f)) s
  | G, .b2 f a b, ρ, s => (ev G a ρ s).bind fun x s => (ev G b ρ s).bind fun y s => .of ((x.peek s).bind fun x => (y.peek s).bind (bi2 f x)) s
  | G, .comp kind its tg own conds elt, ρ, s => (evl G its ρ s).bind fun bs s =>
      match (seens bs).bind (walk kind) with
      | none => .bad
      | some xs => (compL (fun x s => match bindT tg x (wipe ρ own) with
          | none => .bad
          | some ρ' => (evConds G conds ρ' s).bind fun k s => if k then (ev G elt ρ' s).bind fun b s => .of (b.frz.map some) s else .ok none s) xs [] s).bind fun ys s => .ok (.own (.lst ys)) s
  | G, .tell t e, ρ, s => match G.tl t with
      | some tl => tellR G.sub tl (ev G.low e ρ s)
      | none => .bad
  | _, .dic, _, s => .ok (.t .dic) s
def evl : Gx → List CE → Env → Store → R (List B)
  | G, [], _, s => .ok [] s
  | G, e :: es, ρ, s => (ev G e ρ s).bind fun x s => (evl G es ρ s).bind fun xs s => .ok (x.still :: xs) s
def evs : Gx → List (Bool × CE) → Env → Store → R (List D)
  | G, [], _, s => .ok [] s
  | G, (st, e) :: es, ρ, s => (ev G e ρ s).bind fun x s => match st with
      | false => match x.frz with
        | some d => (evs G es ρ s).bind fun xs s => .ok (d :: xs) s
        | none => .bad
      | true => match (x.look s).bind itemsD with
        | some ds => (evs G es ρ s).bind fun xs s => .ok (ds ++ xs) s
        | none => .bad
def evO : Gx → Option CE → Env → Store → R (Option Int)
  | G, none, _, s => .ok none s
  | G, some e, ρ, s => (ev G e ρ s).bind fun x s => match x with
      | .t (.int i) => .ok (some i) s
      | _ => .bad
def evAnd : Gx → List CE → Env → Store → R B
  | G, [], _, _ => .bad
  | G, [e], ρ, s => ev G e ρ s
  | G, e :: es, ρ, s => (ev G e ρ s).bind fun x s => match truB x s with
      | some true => evAnd G es ρ s
      | some false => .ok x s
      | none => .bad
def evOr : Gx → List CE → Env → Store → R B
  | G, [], _, _ => .bad
  | G, [e], ρ, s => ev G e ρ s
  | G, e :: es, ρ, s => (ev G e ρ s).bind fun x s => match truB x s with
      | some false => evOr G es ρ s
      | some true => .ok x s
      | none => .bad
def evConds : Gx → List CE → Env → Store → R Bool
  | G, [], _, s => .ok true s
  | G, e :: es, ρ, s => (ev G e ρ s).bind fun x s => match truB x s with
      | some true => evConds G es ρ s
      | some false => .ok false s
      | none => .bad
end
/-- one turn of a comprehension -/
def turnC (G : Gx) (tg : Tg) (own : List Nat) (conds : List CE) (elt : CE) (ρ : Env) (x : D) (s : Store) : R (Option D) := match bindT tg x (wipe ρ own) with
  | none => .bad
  | some ρ' => (evConds G conds ρ' s).bind fun k s => if k then (ev G elt ρ' s).bind fun b s => .of (b.frz.map some) s else .ok none s
/-- the right sides of a, b = x, y -/
def evg (G : Gx) : List CE → Env → Store → R (List B)
  | [], _, s => .ok [] s
  | e :: es, ρ, s => (ev G e ρ s).bind fun x s => (evg G es ρ s).bind fun xs s => .ok (x :: xs) s
/-- a test -/
def evT (G : Gx) (e : CE) (ρ : Env) (s : Store) : R Bool := (ev G e ρ s).bind fun x s => .of (truB x s) s
/-! ### statements -/
inductive CS where
  | pass
  | never
  | raise (c : Nat)
  | expr (e : CE)
  | asg (i : Nat) (e : CE)
  | asgT (t : Tg) (e : CE)
  | par (is : List Nat) (es : List CE)
  | aug (i : Nat) (op : Op2) (e : CE)
  | setIx (i : Nat) (ix e : CE)
  | app (i : Nat) (e : CE)
  | ext (i : Nat) (e : CE)
  | ret (e : CE)
  | retN
  | ite (c : CE) (a b : List CS)
  | for_ (cutS : Bool) (kind : Nat) (its : List CE) (tg : Tg) (body : List CS)
  | while_ (c : CE) (body : List CS)
  | brk
  | cont
  /-- an owned list is known to stand still from here on -/
  | frz (i : Nat)
  /-- an owned list goes to the store -/
  | mv (i : Nat)
def still (ρ : Env) : Env := ρ.map fun o => o.map B.still
/-- places of the store from n on are forgotten -/
def B.below (n : Nat) : B → Option B
  | .r k => if k < n then some (.r k) else none
  | b => some b
def cutE (n : Nat) (ρ : Env) : Env := ρ.map fun o => o.bind (B.below n)
def cutAt (c : Bool) (n : Nat) (f : Env → Store → RS) (ρ : Env) (s : Store) : RS := if c then f (cutE n ρ) (s.take n) else f ρ s
def forL (c : Bool) (n : Nat) (f : D → Env → Store → RS) : List D → Env → Store → RS
  | [], ρ, s => .nx ρ s
  | x :: xs, ρ, s => match f x ρ s with
    | .nx ρ' s' => cutAt c n (forL c n f xs) ρ' s'
    | .ct ρ' s' => cutAt c n (forL c n f xs) ρ' s'
    | .bk ρ' s' => .nx ρ' s'
    | r => r
def whileL (c : Env → Store → R Bool) (f : Env → Store → RS) : Nat → Env → Store → RS
  | 0, _, _ => .bad
  | n + 1, ρ, s => (c ρ s).to ρ fun k s => if k then match f ρ s with
      | .nx ρ' s' => whileL c f n ρ' s'
      | .ct ρ' s' => whileL c f n ρ' s'
      | .bk ρ' s' => .nx ρ' s'
      | r => r
    else .nx ρ s
def setAll : List Nat → List B → Env → Env
  | i :: is, b :: bs, ρ => setAll is bs (ρ.set i (some b))
  | _, _, ρ => ρ
def gives : List B → Option (List B)
  | [] => some []
  | b :: r => b.give.bind fun d => (gives r).map (d :: ·)
/-- the list at a slot, what is behind a change of it -/
def lstAt (i : Nat) (ρ : Env) (s : Store) : Option (List D) := match ρ[i]? with
  | some (some (.own (.lst xs))) => some xs
  | some (some (.r k)) => match s[k]? with
    | some (.lst xs) => some xs
    | none => none
  | _ => none
def lstPut (i : Nat) (xs : List D) (ρ : Env) (s : Store) : RS := match ρ[i]? with
  | some (some (.own _)) => .nx (ρ.set i (some (.own (.lst xs)))) s
  | some (some (.r k)) => .nx ρ (s.set k (.lst xs))
  | _ => .bad
def steps : Nat := 1000000000
mutual
def exec (G : Gx) : CS → Env → Store → RS
  | .pass, ρ, s => .nx ρ s
  | .never, _, _ => .bad
  | .raise c, ρ, s => .ex c [] ρ s
  | .expr e, ρ, s => (ev G e ρ s).to ρ fun _ s => .nx ρ s
  | .asg i e, ρ, s => (ev G e ρ s).to ρ fun b s => match b.give with
      | some b => .nx (ρ.set i (some b)) s
      | none => .bad
  | .asgT t e, ρ, s => (ev G e ρ s).to ρ fun b s => match b.frz.bind fun d => bindT t d ρ with
      | some ρ' => .nx ρ' s
      | none => .bad
  | .par is es, ρ, s => (evg G es ρ s).to ρ fun bs s => match gives bs with
      | some bs => if bs.length = is.length then .nx (setAll is bs ρ) s else .bad
      | none => .bad
  | .aug i op e, ρ, s => match ρ[i]? with
      | some (some (.t x)) => (ev G e ρ s).to ρ fun y s => match (y.peek s).bind (op2 op x) with
        | some (.t (.int z)) => .nx (ρ.set i (some (.t (.int z)))) s
        | _ => .bad
      | _ => .bad
  | .setIx i ix e, ρ, s => (ev G e ρ s).to ρ fun y s => match y.frz, lstAt i ρ s with
      | some d, some _ => (ev G ix ρ s).to ρ fun k s => match k, lstAt i ρ s with
        | .t (.int k), some xs => match ixN xs.length k with
          | some j => lstPut i (xs.set j d) ρ s
          | none => .bad
        | _, _ => .bad
      | _, _ => .bad
  | .app i e, ρ, s => match lstAt i ρ s with
      | none => .bad
      | some _ => (ev G e ρ s).to ρ fun y s => match y.frz, lstAt i ρ s with
        | some d, some xs => if xs.length < line then lstPut i (xs ++ [d]) ρ s else .bad
        | _, _ => .bad
  | .ext i e, ρ, s => match lstAt i ρ s with
      | none => .bad
      | some _ => (ev G e ρ s).to ρ fun y s => match y.peek s, lstAt i ρ s with
        | some (.lst ys), some xs => if xs.length + ys.length ≤ line then lstPut i (xs ++ ys) ρ s else .bad
        | _, _ => .bad
  | .ret e, ρ, s => match e with
      | .var i => match ρ[i]? with
        | some (some b) => match b.give with
          | some b => .rt b s
          | none => .bad
        | _ => .bad
      | e => (ev G e (still ρ) s).to (still ρ) fun b s => match b.give with
        | some b => .rt b s
        | none => .bad
  | .retN, _, s => .rt (.t .non) s
  | .ite c a b, ρ, s => (evT G c ρ s).to ρ fun k s => if k then execs G a ρ s else execs G b ρ s
  | .for_ cs kind its tg body, ρ, s => (evl G its ρ s).to ρ fun bs s =>
      match (frzs bs).bind (walk kind) with
      | none => .bad
      | some xs => forL cs s.length (fun x ρ s => match bindT tg x ρ with
          | none => .bad
          | some ρ => execs G body ρ s) xs ρ s
  | .while_ c body, ρ, s => whileL (evT G c) (execs G body) steps ρ s
  | .brk, ρ, s => .bk ρ s
  | .cont, ρ, s => .ct ρ s
  | .frz i, ρ, s => match ρ[i]? with
      | some (some b) => .nx (ρ.set i (some b.still)) s
      | _ => .bad
  | .mv i, ρ, s => match ρ[i]? with
      | some (some (.own (.lst xs))) => .nx (ρ.set i (some (.r s.length))) (s ++ [.lst xs])
      | _ => .bad
def execs (G : Gx) : List CS → Env → Store → RS
  | [], ρ, s => .nx ρ s
  | c :: cs, ρ, s => match exec G c ρ s with
    | .nx ρ' s' => execs G cs ρ' s'
    | r => r
end
/-! ### defs -/
structure Fn where
  params : Nat
  slots : Nat
  body : List CS
/-- what a parameter holds -/
def B.par : B → B
  | .own d => .bor d
  | b => b
def enter (f : Fn) (args : List B) : Env := (args.map fun b => some b.par) ++ List.replicate (f.slots - f.params) none
def runF (G : Gx) (f : Fn) (args : List B) (s : Store) : R B := if args.length = f.params then match execs G f.body (enter f args) s with
    | .nx _ s' => .ok (.t .non) (s'.take s.length)
    | .rt b s' => .ok b (s'.take s.length)
    | .ex c p _ s' => .ex c p (s'.take s.length)
    | _ => .bad
  else .bad
/-- the module: its constants, its functions; n: how deep calls may go -/
structure Md where
  gcs : List D
  fns : List Fn
  sub : Nat → Nat → Bool := fun _ _ => false
  tls : List Tl := []
/-- the functions at depth n, n - 1, n - 2 -/
def Md.calls (M : Md) : Nat → (Nat → List B → Store → R B) × (Nat → List B → Store → R B) × (Nat → List B → Store → R B)
  | 0 => (fun _ _ _ => .bad, fun _ _ _ => .bad, fun _ _ _ => .bad)
  | n + 1 => (fun i args s => match M.fns[i]? with
    | some f => runF ⟨(M.calls n).1, fun g => M.gcs[g]?, (M.calls n).2.2, M.sub, if 2 ≤ n then fun t => M.tls[t]? else fun _ => none⟩ f args s
    | none => .bad, (M.calls n).1, (M.calls n).2.1)
def Md.call (M : Md) (n : Nat) : Nat → List B → Store → R B := (M.calls n).1
def Md.gx (M : Md) (n : Nat) : Gx := ⟨M.call n, fun g => M.gcs[g]?, (M.calls n).2.2, M.sub, if 2 ≤ n then fun t => M.tls[t]? else fun _ => none⟩
theorem Md.call_eq (M : Md) (n i : Nat) (args : List B) (s : Store) : M.call (n + 1) i args s = match M.fns[i]? with
    | some f => runF (M.gx n) f args s
    | none => .bad := rfl
end Zw
set_option Elab.async false
set_option linter.all false
set_option maxRecDepth 100000
/-! Zw1: how trees and the store lie in the heap of the hand layer. -/
namespace Zw
open PySem PySem.Spec PyProof.Rows L2
/-! ### trees in the heap -/
mutual
inductive Rp (K : PySem.W.Frag) (F : Hp) : V → D → Prop
  | non : Rp K F .non .non
  | bl (b : Bool) : Rp K F (.bl b) (.bl b)
  | int (i : Int) : Rp K F (.int i) (.int i)
  | str (x : Str) : Rp K F (.str x) (.str x)
  | tup {a : Addr} {xs : List V} {ds : List D} : SqT K F a xs → RpL K F xs ds → Rp K F (.ref a) (.tup ds)
  | lst {a : Addr} {xs : List V} {ds : List D} : F a = some (.lst xs) → RpL K F xs ds → Rp K F (.ref a) (.lst ds)
  | dic {a : Addr} : F a = some (.dK []) → Rp K F (.ref a) .dic
inductive RpL (K : PySem.W.Frag) (F : Hp) : List V → List D → Prop
  | nil : RpL K F [] []
  | cons {v : V} {vs : List V} {d : D} {ds : List D} : Rp K F v d → RpL K F vs ds → RpL K F (v :: vs) (d :: ds)
end
section
variable {K : PySem.W.Frag} {F F' : Hp}
mutual
theorem Rp.mono (e : Same F F') : ∀ {v : V} {d : D}, Rp K F v d → Rp K F' v d
  | _, _, .non => .non
  | _, _, .bl b => .bl b
  | _, _, .int i => .int i
  | _, _, .str x => .str x
  | _, _, .tup h r => .tup (by
      rcases h with (h | ⟨o, h⟩) | h
      · exact .inl (.inl (e _ _ h))
      · exact .inl (.inr ⟨o, e _ _ h⟩)
      · exact .inr h) (RpL.mono e r)
  | _, _, .lst h r => .lst (e _ _ h) (RpL.mono e r)
  | _, _, .dic h => .dic (e _ _ h)
theorem RpL.mono (e : Same F F') : ∀ {vs : List V} {ds : List D}, RpL K F vs ds → RpL K F' vs ds
  | _, _, .nil => .nil
  | _, _, .cons h r => .cons (Rp.mono e h) (RpL.mono e r)
end
theorem RpL.length : ∀ {vs : List V} {ds : List D}, RpL K F vs ds → vs.length = ds.length
  | _, _, .nil => rfl
  | _, _, .cons _ r => by simp [RpL.length r]
theorem RpL.append : ∀ {vs ws : List V} {ds es : List D}, RpL K F vs ds → RpL K F ws es → RpL K F (vs ++ ws) (ds ++ es)
  | _, _, _, _, .nil, r => r
  | _, _, _, _, .cons h t, r => .cons h (RpL.append t r)
theorem RpL.get : ∀ {vs : List V} {ds : List D} {i : Nat} {d : D}, RpL K F vs ds → ds[i]? = some d → ∃ v, vs[i]? = some v ∧ Rp K F v d
  | _, _, _, _, .nil, e => by simp at e
  | _, _, 0, _, .cons h _, e => by simp at e; subst e; exact ⟨_, rfl, h⟩
  | _, _, i + 1, _, .cons _ r, e => by
    obtain ⟨v, h1, h2⟩ := RpL.get (i := i) r (by simpa using e)
    exact ⟨v, by simpa using h1, h2⟩
theorem RpL.set {v : V} {d : D} (h : Rp K F v d) : ∀ {vs : List V} {ds : List D} (i : Nat), RpL K F vs ds → RpL K F (vs.set i v) (ds.set i d)
  | _, _, _, .nil => .nil
  | _, _, 0, .cons _ r => .cons h r
  | _, _, i + 1, .cons q r => .cons q (RpL.set h i r)
theorem RpL.take : ∀ {vs : List V} {ds : List D} (n : Nat), RpL K F vs ds → RpL K F (vs.take n) (ds.take n)
  | _, _, 0, _ => by simpa using RpL.nil
  | _, _, _ + 1, .nil => by simpa using RpL.nil
  | _, _, n + 1, .cons h r => by simpa using RpL.cons h (RpL.take n r)
theorem RpL.drop : ∀ {vs : List V} {ds : List D} (n : Nat), RpL K F vs ds → RpL K F (vs.drop n) (ds.drop n)
  | _, _, 0, r => r
  | _, _, _ + 1, .nil => .nil
  | _, _, n + 1, .cons _ r => by simpa using RpL.drop n r
theorem RpL.rep {vs : List V} {ds : List D} (h : RpL K F vs ds) : ∀ n : Nat, RpL K F (List.replicate n vs).flatten (List.replicate n ds).flatten
  | 0 => .nil
  | n + 1 => by
    rw [List.replicate_succ, List.replicate_succ]
    exact RpL.append h (RpL.rep h n)
theorem RpL.nil_iff {vs : List V} {ds : List D} (h : RpL K F vs ds) : vs = [] ↔ ds = [] := by
  cases h with
  | nil => simp
  | cons => simp
theorem RpL.split : ∀ {vs : List V} {ds es : List D}, RpL K F vs (ds ++ es) → ∃ a b, vs = a ++ b ∧ RpL K F a ds ∧ RpL K F b es
  | vs, [], es, h => ⟨[], vs, rfl, .nil, h⟩
  | _, d :: ds, es, .cons h r => by
    obtain ⟨a, b, e, h1, h2⟩ := RpL.split r
    exact ⟨_ :: a, b, by rw [e]; rfl, .cons h h1, h2⟩
theorem rp_int {v : V} {i : Int} (h : Rp K F v (.int i)) : v = .int i := by cases h; rfl
theorem rp_bl {v : V} {b : Bool} (h : Rp K F v (.bl b)) : v = .bl b := by cases h; rfl
theorem rp_str {v : V} {x : Str} (h : Rp K F v (.str x)) : v = .str x := by cases h; rfl
theorem rp_non {v : V} (h : Rp K F v .non) : v = .non := by cases h; rfl
end
/-! ### the state -/
/-- no table of code objects -/
abbrev NT (o : HO) : Prop := ∀ ps, o ≠ .tbl ps
/-- nothing there, unless a table -/
def Gone (H : Hp) (a : Addr) : Prop := ∀ o, H a = some o → NT o → False
theorem Gone.of {H : Hp} {a : Addr} (h : H a = none) : Gone H a := fun o e _ => by rw [h] at e; cases e
theorem lv {H : Hp} {a : Addr} {o : HO} (h : H a = some o) (n : NT o) : ¬ Gone H a := fun g => g o h n
theorem lvL {H : Hp} {a : Addr} {xs : List V} (h : H a = some (.lst xs)) : ¬ Gone H a := lv h fun _ z => by cases z
theorem goneNe {H : Hp} {a b : Addr} (h : ¬ Gone H a) (g : Gone H b) : a ≠ b := fun z => h (by rw [z]; exact g)
theorem goneNone {H : Hp} {a b : Addr} (h : ¬ Gone H a) (g : H b = none) : a ≠ b := goneNe h (.of g)
theorem gone_upd {H : Hp} {a b : Addr} {o : HO} (h : ¬ Gone H a) (n : NT o) : ¬ Gone (upd H b o) a := fun g => by
  by_cases q : a = b
  · exact g o (by rw [q, upd_same]) n
  · exact h fun u e m => g u (by rw [upd_ne q]; exact e) m
/-- the tables of code objects that K leaves out: each beside the name of its lambdas -/
def tabAt (K : PySem.W.Frag) (fd : FuncData) : Option (Addr × Str) := match fd.code with
  | .ref c => if PySem.W.codeHdIn K c (He.tabOf K c) && (K.lookup (He.tabOf K c)).isNone then some (He.tabOf K c, fd.qualname ++ (".<locals>." : Str) ++ ("<lambda>" : Str)) else none
  | _ => none
def tabT (K : PySem.W.Frag) : List (Addr × Str) := K.filterMap fun p => match p.2.data with
  | .func fd => tabAt K fd
  | _ => none
structure Rel (K : PySem.W.Frag) (F : Hp) (μ : List Addr) (S : Store) (H : Hp) : Prop where
  sub : Same F H
  len : μ.length = S.length
  nd : μ.Nodup
  obj : ∀ (k : Nat) (a : Addr) (xs : List D), μ[k]? = some a → S[k]? = some (.lst xs) → ∃ vs, H a = some (.lst vs) ∧ RpL K F vs xs
  dis : ∀ a ∈ μ, F a = none
  ft : ∀ a o, F a = some o → NT o
  tab : LamX.Tabs (tabT K) H
theorem tabs_upd {T : List (Addr × Str)} {H : Hp} {a : Addr} {o : HO} (t : LamX.Tabs T H) (h : ∀ u, H a = some u → ∃ xs, u = .lst xs) : LamX.Tabs T (upd H a o) := fun p hp => by
  obtain ⟨ps, h1, h2, h3⟩ := t p hp
  refine ⟨ps, ?_, h2, fun pos cv e => ?_⟩
  · rw [upd_ne]
    · exact h1
    · intro z
      obtain ⟨xs, e⟩ := h _ (by rw [← z]; exact h1)
      cases e
  · obtain ⟨c, e1, e2⟩ := h3 pos cv e
    refine ⟨c, e1, ?_⟩
    rw [upd_ne]
    · exact e2
    · intro z
      obtain ⟨xs, e⟩ := h _ (by rw [← z]; exact e2)
      unfold LamX.CodeO at e
      cases e
theorem tabs_new {T : List (Addr × Str)} {H : Hp} {a : Addr} {o : HO} (t : LamX.Tabs T H) (h : H a = none) : LamX.Tabs T (upd H a o) := tabs_upd t fun u e => by rw [h] at e; cases e
theorem tabs_lst {T : List (Addr × Str)} {H : Hp} {a : Addr} {o : HO} {xs : List V} (t : LamX.Tabs T H) (h : H a = some (.lst xs)) : LamX.Tabs T (upd H a o) := tabs_upd t fun u e => by rw [h] at e; cases e; exact ⟨xs, rfl⟩
/-- what evaluation leaves -/
structure Ext (μ : List Addr) (F H F' H' : Hp) : Prop where
  fs : Same F F'
  fn : ∀ a, ¬ Gone H a → F' a = F a
  keep : ∀ a o, H a = some o → NT o → a ∉ μ → H' a = some o
  live : ∀ a, ¬ Gone H a → ¬ Gone H' a
theorem Ext.refl (μ : List Addr) (F H : Hp) : Ext μ F H F H := ⟨fun _ _ h => h, fun _ _ => rfl, fun _ _ h _ _ => h, fun _ h => h⟩
theorem Ext.trans {μ : List Addr} {F H F1 H1 F2 H2 : Hp} (x : Ext μ F H F1 H1) (y : Ext μ F1 H1 F2 H2) : Ext μ F H F2 H2 :=
  ⟨fun a o h => y.fs a o (x.fs a o h), fun a h => (y.fn a (x.live a h)).trans (x.fn a h), fun a o h n m => y.keep a o (x.keep a o h n m) n m, fun a h => y.live a (x.live a h)⟩
theorem Ext.back {μ : List Addr} {F H F1 H1 : Hp} (x : Ext μ F H F1 H1) {a : Addr} (h : Gone H1 a) : Gone H a := Classical.byContradiction fun z => x.live a z h
/-- own and borrowed lists -/
def OwnAt (K : PySem.W.Frag) (F : Hp) (μ : List Addr) (H : Hp) (v : V) (d : D) : Prop :=
  ∃ a xs ds, v = .ref a ∧ d = .lst ds ∧ H a = some (.lst xs) ∧ RpL K F xs ds ∧ F a = none ∧ a ∉ μ
/-- a list that nobody changes: the script, a list of the module -/
def ScAt (K : PySem.W.Frag) (μ : List Addr) (H : Hp) (a : Addr) (xs : List V) : Prop := (∃ o, H a = some (.frz o (.lst xs)) ∧ a ∉ μ) ∨
  ∃ (o : Obj) (its : Array Value) (n : Nat), K.lookup a = some o ∧ o.cls = .type "list" ∧ o.dict = none ∧ o.data = .seq its n ∧ its.size ≤ sizeLine ∧ Vals xs its.toList
theorem ScAt.sq {K : PySem.W.Frag} {μ : List Addr} {H : Hp} {a : Addr} {xs : List V} (h : ScAt K μ H a xs) : SqL K H a xs := h.elim (fun ⟨o, h, _⟩ => .inl (.inr ⟨o, h⟩)) .inr
theorem ScAt.to {K : PySem.W.Frag} {μ μ' : List Addr} {H H' : Hp} {a : Addr} {xs : List V} (h : ScAt K μ H a xs) (k : ∀ o, H a = some (.frz o (.lst xs)) → a ∉ μ → H' a = some (.frz o (.lst xs)) ∧ a ∉ μ') : ScAt K μ' H' a xs :=
  h.elim (fun ⟨o, h, m⟩ => .inl ⟨o, k o h m⟩) .inr
def BRp (K : PySem.W.Frag) (F : Hp) (μ : List Addr) (H : Hp) (v : V) : B → Prop
  | .t d => Rp K F v d
  | .own d => OwnAt K F μ H v d
  | .bor d => OwnAt K F μ H v d
  | .sc d => ∃ a xs ds, v = .ref a ∧ d = .lst ds ∧ ScAt K μ H a xs ∧ RpL K F xs ds
  | .r k => ∃ a, v = .ref a ∧ μ[k]? = some a
structure ER (K : PySem.W.Frag) (F : Hp) (μ : List Addr) (H : Hp) (ρ : Env) (σ : L2.St) : Prop where
  len : ρ.length = σ.length
  val : ∀ (i : Nat) (b : B), ρ[i]? = some (some b) → ∃ v, σ[i]? = some (some v) ∧ BRp K F μ H v b
  sep : ∀ (i j : Nat) (d d' : D) (a : Addr), i ≠ j → ρ[i]? = some (some (.own d)) → (ρ[j]? = some (some (.own d')) ∨ ρ[j]? = some (some (.bor d'))) →
    σ[i]? = some (some (.ref a)) → σ[j]? ≠ some (some (.ref a))
section
variable {K : PySem.W.Frag} {F F' F1 : Hp} {μ : List Addr} {H H' H1 : Hp} {ρ : Env} {σ : L2.St} {v : V} {b : B}
theorem OwnAt.step {d : D} (x : Ext μ F H F' H') (h : OwnAt K F μ H v d) : OwnAt K F' μ H' v d := by
  obtain ⟨a, xs, ds, e, ed, ha, r, n, m⟩ := h
  exact ⟨a, xs, ds, e, ed, x.keep a _ ha (fun _ z => by cases z) m, r.mono x.fs, by rw [x.fn a (lvL ha)]; exact n, m⟩
theorem BRp.step (x : Ext μ F H F' H') (h : BRp K F μ H v b) : BRp K F' μ H' v b := by
  cases b with
  | t d => exact Rp.mono x.fs h
  | own d => exact OwnAt.step x h
  | bor d => exact OwnAt.step x h
  | sc d =>
    obtain ⟨a, xs, ds, e, ed, ha, r⟩ := h
    exact ⟨a, xs, ds, e, ed, ha.to fun o e m => ⟨x.keep a _ e (fun _ z => by cases z) m, m⟩, r.mono x.fs⟩
  | r k => exact h
theorem ER.step (x : Ext μ F H F' H') (h : ER K F μ H ρ σ) : ER K F' μ H' ρ σ :=
  ⟨h.len, fun i b e => let ⟨v, h1, h2⟩ := h.val i b e; ⟨v, h1, h2.step x⟩, h.sep⟩
/-- a fresh list -/
def Fresh (H : Hp) (v : V) : B → Prop
  | .own _ => ∀ a, v = .ref a → Gone H a
  | _ => True
theorem Fresh.back (x : Ext μ F H F1 H1) (h : Fresh H1 v b) : Fresh H v b := by
  cases b with
  | own d =>
    intro a e
    exact x.back (h a e)
  | t _ => trivial
  | bor _ => trivial
  | sc _ => trivial
  | r _ => trivial
end
/-! ### exceptions -/
/-- the class numbered c: its object's value, the attribute that it keeps -/
structure XCls where
  cls : Value
  attr : Option Str
/-- how an exception of the class lies in the heap -/
def XR (K : PySem.W.Frag) (xc : Nat → Option XCls) (F H : Hp) (c : Nat) (p : List D) (cls : Value) (d : Option Addr) : Prop :=
  ∃ x, xc c = some x ∧ cls = x.cls ∧ match x.attr, p with
    | none, [] => True
    | some f, [q] => ∃ dd v, d = some dd ∧ H dd = some (.xd [(f, v)]) ∧ Rp K F v q
    | _, _ => False
/-! ### what is wanted of a result -/
section
variable (K : PySem.W.Frag) (xc : Nat → Option XCls) (μ : List Addr) (W : WX)
def okE (F H : Hp) (σ : L2.St) (r : R B) (Q : V → Hp → Prop) : Prop := match r with
  | .ok b S' => ∀ F' H' v, Ext μ F H F' H' → Rel K F' μ S' H' → BRp K F' μ H' v b → Fresh H v b → Q v H'
  | .ex c p S' => ∀ F' H' cls d, Ext μ F H F' H' → Rel K F' μ S' H' → XR K xc F' H' c p cls d → W cls d σ H'
  | .bad => False
/-- the same, the whole state told -/
def okS {α : Type} (F H : Hp) (σ : L2.St) (r : R α) (Q : α → Store → Hp → Hp → Prop) : Prop := match r with
  | .ok b S' => Q b S' F H
  | .ex c p S' => ∀ F' H' cls d, Ext μ F H F' H' → Rel K F' μ S' H' → XR K xc F' H' c p cls d → W cls d σ H'
  | .bad => False
end
section
variable {K : PySem.W.Frag} {xc : Nat → Option XCls} {μ : List Addr} {W : WX} {F H F1 H1 : Hp} {σ : L2.St}
theorem okE.step {r : R B} {Q : V → Hp → Prop} (x : Ext μ F H F1 H1) (h : okE K xc μ W F H σ r Q) : okE K xc μ W F1 H1 σ r Q := by
  cases r with
  | ok b S' => exact fun F' H' v e r q f => h F' H' v (x.trans e) r q (f.back x)
  | ex c p S' => exact fun F' H' cls d e r q => h F' H' cls d (x.trans e) r q
  | bad => exact h
end
/-- an expression's reading by what the interpreter makes of it -/
def tM (K : PySem.W.Frag) (xc : Nat → Option XCls) (W : WX) (m : Env → Store → R B) : TE := fun σ H Q =>
  ∃ F μ S ρ, Rel K F μ S H ∧ ER K F μ H ρ σ ∧ okE K xc μ W F H σ (m ρ S) Q
/-- a list of values -/
inductive BRs (K : PySem.W.Frag) (F : Hp) (μ : List Addr) (H : Hp) : List V → List B → Prop
  | nil : BRs K F μ H [] []
  | cons {v : V} {vs : List V} {b : B} {bs : List B} : BRp K F μ H v b → BRs K F μ H vs bs → BRs K F μ H (v :: vs) (b :: bs)
theorem BRs.step {K : PySem.W.Frag} {F F' : Hp} {μ : List Addr} {H H' : Hp} (x : Ext μ F H F' H') : ∀ {vs : List V} {bs : List B}, BRs K F μ H vs bs → BRs K F' μ H' vs bs
  | _, _, .nil => .nil
  | _, _, .cons h r => .cons (h.step x) (BRs.step x r)
theorem BRs.length {K : PySem.W.Frag} {F : Hp} {μ : List Addr} {H : Hp} : ∀ {vs : List V} {bs : List B}, BRs K F μ H vs bs → vs.length = bs.length
  | _, _, .nil => rfl
  | _, _, .cons _ r => by simp [BRs.length r]
def okL (K : PySem.W.Frag) (xc : Nat → Option XCls) (μ : List Addr) (W : WX) (F H : Hp) (σ : L2.St) (r : R (List B)) (Q : List V → Hp → Prop) : Prop := match r with
  | .ok bs S' => ∀ F' H' vs, Ext μ F H F' H' → Rel K F' μ S' H' → BRs K F' μ H' vs bs → Q vs H'
  | .ex c p S' => ∀ F' H' cls d, Ext μ F H F' H' → Rel K F' μ S' H' → XR K xc F' H' c p cls d → W cls d σ H'
  | .bad => False
def tML (K : PySem.W.Frag) (xc : Nat → Option XCls) (W : WX) (m : Env → Store → R (List B)) : TA := fun σ H Q =>
  ∃ F μ S ρ, Rel K F μ S H ∧ ER K F μ H ρ σ ∧ okL K xc μ W F H σ (m ρ S) Q
/-- the items of a display: trees alone -/
def okD (K : PySem.W.Frag) (xc : Nat → Option XCls) (μ : List Addr) (W : WX) (F H : Hp) (σ : L2.St) (r : R (List D)) (Q : List V → Hp → Prop) : Prop := match r with
  | .ok ds S' => ∀ F' H' vs, Ext μ F H F' H' → Rel K F' μ S' H' → RpL K F' vs ds → Q vs H'
  | .ex c p S' => ∀ F' H' cls d, Ext μ F H F' H' → Rel K F' μ S' H' → XR K xc F' H' c p cls d → W cls d σ H'
  | .bad => False
def tMD (K : PySem.W.Frag) (xc : Nat → Option XCls) (W : WX) (m : Env → Store → R (List D)) : TA := fun σ H Q =>
  ∃ F μ S ρ, Rel K F μ S H ∧ ER K F μ H ρ σ ∧ okD K xc μ W F H σ (m ρ S) Q
def okT (K : PySem.W.Frag) (xc : Nat → Option XCls) (μ : List Addr) (W : WX) (F H : Hp) (σ : L2.St) (r : R Bool) (Q : Bool → Hp → Prop) : Prop := match r with
  | .ok k S' => ∀ F' H', Ext μ F H F' H' → Rel K F' μ S' H' → Q k H'
  | .ex c p S' => ∀ F' H' cls d, Ext μ F H F' H' → Rel K F' μ S' H' → XR K xc F' H' c p cls d → W cls d σ H'
  | .bad => False
def tMT (K : PySem.W.Frag) (xc : Nat → Option XCls) (W : WX) (m : Env → Store → R Bool) : TT := fun σ H Q =>
  ∃ F μ S ρ, Rel K F μ S H ∧ ER K F μ H ρ σ ∧ okT K xc μ W F H σ (m ρ S) Q
theorem PE.weak {X : Cx} {e : Expr} {t t' : TE} (h : PE X e t) (w : ∀ σ H Q, t' σ H Q → t σ H Q) : PE X e t' := ⟨fun pins s σ H Q I q => h.run pins s σ H Q I (w σ H Q q)⟩
theorem PT.weak {X : Cx} {e : Expr} {t t' : TT} (h : PT X e t) (w : ∀ σ H Q, t' σ H Q → t σ H Q) : PT X e t' := ⟨fun pins s σ H Q I q => h.run pins s σ H Q I (w σ H Q q)⟩
theorem PW.weak {X : Cx} {e : Expr} {t t' : TT} (h : PW X e t) (w : ∀ σ H Q, t' σ H Q → t σ H Q) : PW X e t' := ⟨fun wh pins s σ H Q I q => h.run wh pins s σ H Q I (w σ H Q q)⟩
theorem PA.weak {X : Cx} {es : List Expr} {t t' : TA} (h : PA X es t) (w : ∀ σ H Q, t' σ H Q → t σ H Q) : PA X es t' := ⟨fun pos pins s σ H Q I q => h.run pos pins s σ H Q I (w σ H Q q)⟩
theorem PS.weak {X : Cx} {st : Stmt} {t t' : TS} (h : PS X st t) (w : ∀ D σ H, t' D σ H → t D σ H) : PS X st t' := ⟨fun pins s σ H D I q => h.run pins s σ H D I (w D σ H q)⟩
theorem PSs.weak {X : Cx} {st : List Stmt} {t t' : TS} (h : PSs X st t) (w : ∀ D σ H, t' D σ H → t D σ H) : PSs X st t' := ⟨fun pins s σ H D I q => h.run pins s σ H D I (w D σ H q)⟩
/-! ### one after another -/
section
variable {K : PySem.W.Frag} {xc : Nat → Option XCls} {W : WX} {σ : L2.St} {H F : Hp} {μ : List Addr}
theorem okE_bind {r : R B} {g : B → Store → R B} {Q R' : VK} (h : okE K xc μ W F H σ (r.bind g) Q)
    (k : ∀ F1 H1 v b S1, Ext μ F H F1 H1 → Rel K F1 μ S1 H1 → BRp K F1 μ H1 v b → Fresh H v b → okE K xc μ W F1 H1 σ (g b S1) Q → R' v H1) : okE K xc μ W F H σ r R' := by
  cases r with
  | ok b S1 => exact fun F1 H1 v x r1 bv fr => k F1 H1 v b S1 x r1 bv fr (okE.step x h)
  | ex c p S1 => exact h
  | bad => exact h
theorem okE_bind0 {r : R B} {g : B → Store → R B} {Q R' : VK} (h : okE K xc μ W F H σ (r.bind g) Q)
    (k : ∀ F1 H1 v b S1, Ext μ F H F1 H1 → Rel K F1 μ S1 H1 → BRp K F1 μ H1 v b → Fresh H v b → okE K xc μ W F H σ (g b S1) Q → R' v H1) : okE K xc μ W F H σ r R' := by
  cases r with
  | ok b S1 => exact fun F1 H1 v x r1 bv fr => k F1 H1 v b S1 x r1 bv fr h
  | ex c p S1 => exact h
  | bad => exact h
theorem okE_bindD {r : R B} {g : B → Store → R (List D)} {Q : List V → Hp → Prop} {R' : VK} (h : okD K xc μ W F H σ (r.bind g) Q)
    (k : ∀ F1 H1 v b S1, Ext μ F H F1 H1 → Rel K F1 μ S1 H1 → BRp K F1 μ H1 v b → Fresh H v b → okD K xc μ W F1 H1 σ (g b S1) Q → R' v H1) : okE K xc μ W F H σ r R' := by
  cases r with
  | ok b S1 =>
    refine fun F1 H1 v x r1 bv fr => k F1 H1 v b S1 x r1 bv fr ?_
    have h2 : okD K xc μ W F H σ (g b S1) Q := h
    cases q : g b S1 with
    | ok ds S2 => rw [q] at h2; exact fun F' H' vs e r q => h2 F' H' vs (x.trans e) r q
    | ex c p S2 => rw [q] at h2; exact fun F' H' cls d e r q => h2 F' H' cls d (x.trans e) r q
    | bad => rw [q] at h2; exact h2
  | ex c p S1 => exact h
  | bad => exact h
theorem okE_bindL {r : R B} {g : B → Store → R (List B)} {Q : List V → Hp → Prop} {R' : VK} (h : okL K xc μ W F H σ (r.bind g) Q)
    (k : ∀ F1 H1 v b S1, Ext μ F H F1 H1 → Rel K F1 μ S1 H1 → BRp K F1 μ H1 v b → Fresh H v b → okL K xc μ W F1 H1 σ (g b S1) Q → R' v H1) : okE K xc μ W F H σ r R' := by
  cases r with
  | ok b S1 =>
    refine fun F1 H1 v x r1 bv fr => k F1 H1 v b S1 x r1 bv fr ?_
    have h2 : okL K xc μ W F H σ (g b S1) Q := h
    cases q : g b S1 with
    | ok ds S2 => rw [q] at h2; exact fun F' H' vs e r q => h2 F' H' vs (x.trans e) r q
    | ex c p S2 => rw [q] at h2; exact fun F' H' cls d e r q => h2 F' H' cls d (x.trans e) r q
    | bad => rw [q] at h2; exact h2
  | ex c p S1 => exact h
  | bad => exact h
theorem okE_bindT {r : R B} {g : B → Store → R Bool} {Q : Bool → Hp → Prop} {R' : VK} (h : okT K xc μ W F H σ (r.bind g) Q)
    (k : ∀ F1 H1 v b S1, Ext μ F H F1 H1 → Rel K F1 μ S1 H1 → BRp K F1 μ H1 v b → Fresh H v b → okT K xc μ W F1 H1 σ (g b S1) Q → R' v H1) : okE K xc μ W F H σ r R' := by
  cases r with
  | ok b S1 =>
    refine fun F1 H1 v x r1 bv fr => k F1 H1 v b S1 x r1 bv fr ?_
    have h2 : okT K xc μ W F H σ (g b S1) Q := h
    cases q : g b S1 with
    | ok ds S2 => rw [q] at h2; exact fun F' H' e r => h2 F' H' (x.trans e) r
    | ex c p S2 => rw [q] at h2; exact fun F' H' cls d e r q => h2 F' H' cls d (x.trans e) r q
    | bad => rw [q] at h2; exact h2
  | ex c p S1 => exact h
  | bad => exact h
theorem okT_bind {r : R Bool} {g : Bool → Store → R B} {Q : VK} {R' : Bool → Hp → Prop} (h : okE K xc μ W F H σ (r.bind g) Q)
    (k : ∀ F1 H1 b S1, Ext μ F H F1 H1 → Rel K F1 μ S1 H1 → okE K xc μ W F1 H1 σ (g b S1) Q → R' b H1) : okT K xc μ W F H σ r R' := by
  cases r with
  | ok b S1 => exact fun F1 H1 x r1 => k F1 H1 b S1 x r1 (okE.step x h)
  | ex c p S1 => exact h
  | bad => exact h
theorem okL_bind {r : R (List B)} {g : List B → Store → R B} {Q : VK} {R' : List V → Hp → Prop} (h : okE K xc μ W F H σ (r.bind g) Q)
    (k : ∀ F1 H1 vs bs S1, Ext μ F H F1 H1 → Rel K F1 μ S1 H1 → BRs K F1 μ H1 vs bs → okE K xc μ W F1 H1 σ (g bs S1) Q → R' vs H1) : okL K xc μ W F H σ r R' := by
  cases r with
  | ok b S1 => exact fun F1 H1 vs x r1 bv => k F1 H1 vs b S1 x r1 bv (okE.step x h)
  | ex c p S1 => exact h
  | bad => exact h
theorem okD_bind {r : R (List D)} {g : List D → Store → R B} {Q : VK} {R' : List V → Hp → Prop} (h : okE K xc μ W F H σ (r.bind g) Q)
    (k : ∀ F1 H1 vs ds S1, Ext μ F H F1 H1 → Rel K F1 μ S1 H1 → RpL K F1 vs ds → okE K xc μ W F1 H1 σ (g ds S1) Q → R' vs H1) : okD K xc μ W F H σ r R' := by
  cases r with
  | ok b S1 => exact fun F1 H1 vs x r1 bv => k F1 H1 vs b S1 x r1 bv (okE.step x h)
  | ex c p S1 => exact h
  | bad => exact h
theorem okD_bind0 {r : R (List D)} {g : List D → Store → R B} {Q : VK} {R' : List V → Hp → Prop} (h : okE K xc μ W F H σ (r.bind g) Q)
    (k : ∀ F1 H1 vs ds S1, Ext μ F H F1 H1 → Rel K F1 μ S1 H1 → RpL K F1 vs ds → okE K xc μ W F H σ (g ds S1) Q → R' vs H1) : okD K xc μ W F H σ r R' := by
  cases r with
  | ok b S1 => exact fun F1 H1 vs x r1 bv => k F1 H1 vs b S1 x r1 bv h
  | ex c p S1 => exact h
  | bad => exact h
theorem bin_rd {ma mb : Env → Store → R B} {g : B → B → Store → R B} {r : R2} {Q : VK}
    (hop : ∀ F μ S H x y bx bY (Q : VK), Rel K F μ S H → BRp K F μ H x bx → BRp K F μ H y bY → okE K xc μ W F H σ (g bx bY S) Q → r x y H Q)
    (h : tM K xc W (fun ρ s => (ma ρ s).bind fun x s => (mb ρ s).bind fun y s => g x y s) σ H Q) : tOp r (tM K xc W ma) (tM K xc W mb) σ H Q := by
  obtain ⟨F, μ, S, ρ, rel, er, h⟩ := h
  exact ⟨F, μ, S, ρ, rel, er, okE_bind h fun F1 H1 x bx S1 e1 r1 b1 f1 h1 => ⟨F1, μ, S1, ρ, r1, er.step e1, okE_bind h1 fun F2 H2 y bY S2 e2 r2 b2 f2 h2 =>
    hop F2 μ S2 H2 x y bx bY Q r2 (b1.step e2) b2 h2⟩⟩
/-- a value that needs no new object -/
theorem okE_val {S : Store} {b : B} {v : V} {Q : VK} (h : okE K xc μ W F H σ (.ok b S) Q) (r : Rel K F μ S H) (bv : BRp K F μ H v b) (f : Fresh H v b) : Q v H := h F H v (Ext.refl _ _ _) r bv f
/-- a new object at p, a tree -/
theorem Rel.live1 {S : Store} (r : Rel K F μ S H) {a : Addr} (ha : a ∈ μ) : ∃ vs, H a = some (.lst vs) := by
  obtain ⟨k, hk⟩ := List.mem_iff_getElem?.mp ha
  have hl : k < S.length := by rw [← r.len]; exact (List.getElem?_eq_some_iff.mp hk).1
  cases e : S[k]? with
  | none => exact absurd (List.getElem?_eq_none_iff.mp e) (by omega)
  | some o => cases o with
    | lst xs =>
      obtain ⟨vs, h1, _⟩ := r.obj k a xs hk e
      exact ⟨vs, h1⟩
theorem Rel.out {S : Store} {p : Addr} (r : Rel K F μ S H) (hp : Gone H p) : F p = none ∧ p ∉ μ := by
  constructor
  · cases e : F p with
    | none => rfl
    | some u => exact (hp u (r.sub p u e) (r.ft p u e)).elim
  · intro ha
    obtain ⟨vs, h1⟩ := r.live1 ha
    exact lvL h1 hp
theorem Rel.new {S : Store} {p : Addr} {o : HO} (r : Rel K F μ S H) (hp : H p = none) (n : NT o) : Rel K (upd F p o) μ S (upd H p o) := by
  have nf : ∀ a u, F a = some u → a ≠ p := fun a u e z => by rw [z] at e; rw [r.sub p u e] at hp; cases hp
  have sF : Same F (upd F p o) := fun a u e => by rw [upd_ne (nf a u e)]; exact e
  refine ⟨fun a u e => ?_, r.len, r.nd, fun k a xs e1 e2 => ?_, fun a ha => ?_, fun a u e => ?_, tabs_new r.tab hp⟩
  · by_cases q : a = p
    · rw [q, upd_same] at e; rw [q, upd_same]; exact e
    · rw [upd_ne q] at e; rw [upd_ne q]; exact r.sub a u e
  · obtain ⟨vs, h1, h2⟩ := r.obj k a xs e1 e2
    have q : a ≠ p := fun z => by rw [z] at h1; rw [h1] at hp; cases hp
    exact ⟨vs, by rw [upd_ne q]; exact h1, h2.mono sF⟩
  · have q : a ≠ p := fun z => (r.out (.of hp)).2 (by rw [← z]; exact ha)
    rw [upd_ne q]; exact r.dis a ha
  · by_cases q : a = p
    · rw [q, upd_same] at e; cases e; exact n
    · rw [upd_ne q] at e; exact r.ft a u e
theorem Ext.new {p : Addr} {o : HO} (s : Same F H) (hp : H p = none) (n : NT o) : Ext μ F H (upd F p o) (upd H p o) := by
  have nf : ∀ a u, F a = some u → a ≠ p := fun a u e z => by rw [z] at e; rw [s p u e] at hp; cases hp
  refine ⟨fun a u e => by rw [upd_ne (nf a u e)]; exact e, fun a e => upd_ne (goneNone e hp), fun a u e m _ => ?_, fun a e => gone_upd e n⟩
  rw [upd_ne (goneNone (lv e m) hp)]; exact e
/-- a new list at p, one's own -/
theorem Rel.newOwn {S : Store} {p : Addr} {o : HO} (r : Rel K F μ S H) (hp : H p = none) : Rel K F μ S (upd H p o) := by
  refine ⟨fun a u e => ?_, r.len, r.nd, fun k a xs e1 e2 => ?_, r.dis, r.ft, tabs_new r.tab hp⟩
  · have q : a ≠ p := fun z => by rw [z] at e; rw [r.sub p u e] at hp; cases hp
    rw [upd_ne q]; exact r.sub a u e
  · obtain ⟨vs, h1, h2⟩ := r.obj k a xs e1 e2
    have q : a ≠ p := fun z => by rw [z] at h1; rw [h1] at hp; cases hp
    exact ⟨vs, by rw [upd_ne q]; exact h1, h2⟩
theorem Ext.newOwn {p : Addr} {o : HO} (hp : H p = none) (n : NT o) : Ext μ F H F (upd H p o) := by
  refine ⟨fun a u e => e, fun a e => rfl, fun a u e m _ => ?_, fun a e => gone_upd e n⟩
  rw [upd_ne (goneNone (lv e m) hp)]; exact e
theorem nt_tup {xs : List V} : NT (.tup xs) := fun _ z => by cases z
theorem nt_lst {xs : List V} : NT (.lst xs) := fun _ z => by cases z
theorem nt_dK {xs : List (Key × V)} : NT (.dK xs) := fun _ z => by cases z
/-- a new tuple -/
theorem okE_tup {S : Store} {ds : List D} {vs : List V} {p : Addr} {Q : VK} (h : okE K xc μ W F H σ (.ok (.t (.tup ds)) S) Q) (r : Rel K F μ S H) (rs : RpL K F vs ds) (hp : H p = none) : Q (.ref p) (upd H p (.tup vs)) :=
  h _ _ _ (Ext.new r.sub hp nt_tup) (r.new hp nt_tup) (.tup (.inl (.inl upd_same)) (rs.mono (Ext.new (μ := μ) r.sub hp nt_tup).fs)) trivial
/-- a new list -/
theorem okE_lst {S : Store} {ds : List D} {vs : List V} {p : Addr} {Q : VK} (h : okE K xc μ W F H σ (.ok (.own (.lst ds)) S) Q) (r : Rel K F μ S H) (rs : RpL K F vs ds) (hp : H p = none) : Q (.ref p) (upd H p (.lst vs)) :=
  h _ _ _ (Ext.newOwn hp nt_lst) (r.newOwn hp) ⟨p, vs, ds, rfl, rfl, upd_same, rs, (r.out (.of hp)).1, (r.out (.of hp)).2⟩ fun a e => by cases e; exact .of hp
/-- a new dict -/
theorem okE_dic {S : Store} {p : Addr} {Q : VK} (h : okE K xc μ W F H σ (.ok (.t .dic) S) Q) (r : Rel K F μ S H) (hp : H p = none) : Q (.ref p) (upd H p (.dK [])) :=
  h _ _ _ (Ext.new r.sub hp nt_dK) (r.new hp nt_dK) (.dic upd_same) trivial
end
end Zw
set_option Elab.async false
set_option linter.all false
set_option maxRecDepth 100000
/-! Zw2: operators, comparisons, built-ins by what the interpreter makes of them. -/
namespace Zw
open PySem PySem.Spec PyProof.Rows L2
theorem line_eq : line = sizeLine := by decide
section
variable {K : PySem.W.Frag} {F : Hp} {μ : List Addr} {S : Store} {H : Hp} {v : V} {b : B} {ds : List D} {d : D}
/-! ### looks -/
theorem look_of_peek (h : b.peek S = some d) : b.look S = some d := by
  cases b with
  | t _ => exact h
  | own _ => exact h
  | bor _ => exact h
  | sc _ => cases h
  | r _ => exact h
theorem pk_lst (r : Rel K F μ S H) (bv : BRp K F μ H v b) (h : b.peek S = some (.lst ds)) : ∃ a xs, v = .ref a ∧ H a = some (.lst xs) ∧ RpL K F xs ds := by
  cases b with
  | t d =>
    cases h
    cases bv with
    | lst h1 h2 => exact ⟨_, _, rfl, r.sub _ _ h1, h2⟩
  | own d =>
    cases h
    obtain ⟨a, xs, es, e, ed, ha, q, _⟩ := bv
    cases ed
    exact ⟨a, xs, e, ha, q⟩
  | bor d =>
    cases h
    obtain ⟨a, xs, es, e, ed, ha, q, _⟩ := bv
    cases ed
    exact ⟨a, xs, e, ha, q⟩
  | sc d => cases h
  | r k =>
    obtain ⟨a, e, hk⟩ := bv
    have h1 : (match S[k]? with | some (.lst xs) => some (D.lst xs) | none => none) = some (.lst ds) := h
    cases q : S[k]? with
    | none => rw [q] at h1; cases h1
    | some o => cases o with
      | lst ys =>
        rw [q] at h1
        cases h1
        obtain ⟨vs, h2, h3⟩ := r.obj k a ds hk q
        exact ⟨a, vs, e, h2, h3⟩
theorem lk_lst (r : Rel K F μ S H) (bv : BRp K F μ H v b) (h : b.look S = some (.lst ds)) : ∃ a xs, v = .ref a ∧ SqL K H a xs ∧ RpL K F xs ds := by
  cases b with
  | sc d =>
    cases h
    obtain ⟨a, xs, es, e, ed, ha, q⟩ := bv
    cases ed
    exact ⟨a, xs, e, ha.sq, q⟩
  | t d => obtain ⟨a, xs, e, h1, h2⟩ := pk_lst r bv h; exact ⟨a, xs, e, SqL.of h1, h2⟩
  | own d => obtain ⟨a, xs, e, h1, h2⟩ := pk_lst r bv h; exact ⟨a, xs, e, SqL.of h1, h2⟩
  | bor d => obtain ⟨a, xs, e, h1, h2⟩ := pk_lst r bv h; exact ⟨a, xs, e, SqL.of h1, h2⟩
  | r k => obtain ⟨a, xs, e, h1, h2⟩ := pk_lst r bv h; exact ⟨a, xs, e, SqL.of h1, h2⟩
/-- what is no list is a tree -/
theorem lk_t (r : Rel K F μ S H) (bv : BRp K F μ H v b) (h : b.look S = some d) (n : ∀ ds, d ≠ .lst ds) : b = .t d ∧ Rp K F v d := by
  cases b with
  | t d' => cases h; exact ⟨rfl, bv⟩
  | own d' => cases h; obtain ⟨a, xs, es, e, ed, _⟩ := bv; exact absurd ed (n es)
  | bor d' => cases h; obtain ⟨a, xs, es, e, ed, _⟩ := bv; exact absurd ed (n es)
  | sc d' => cases h; obtain ⟨a, xs, es, e, ed, _⟩ := bv; exact absurd ed (n es)
  | r k =>
    have h1 : (match S[k]? with | some (.lst xs) => some (D.lst xs) | none => none) = some d := h
    split at h1
    · cases h1; exact absurd rfl (n _)
    · cases h1
theorem lk_tup (r : Rel K F μ S H) (bv : BRp K F μ H v b) (h : b.look S = some (.tup ds)) : ∃ a xs, v = .ref a ∧ SqT K H a xs ∧ RpL K F xs ds := by
  obtain ⟨_, q⟩ := lk_t r bv h (fun _ z => by cases z)
  cases q with
  | tup h1 h2 =>
    refine ⟨_, _, rfl, ?_, h2⟩
    rcases h1 with (h1 | ⟨o, h1⟩) | h1
    · exact .inl (.inl (r.sub _ _ h1))
    · exact .inl (.inr ⟨o, r.sub _ _ h1⟩)
    · exact .inr h1
theorem lk_int (r : Rel K F μ S H) {i : Int} (bv : BRp K F μ H v b) (h : b.look S = some (.int i)) : v = .int i := rp_int (lk_t r bv h (fun _ z => by cases z)).2
theorem lk_bl (r : Rel K F μ S H) {i : Bool} (bv : BRp K F μ H v b) (h : b.look S = some (.bl i)) : v = .bl i := rp_bl (lk_t r bv h (fun _ z => by cases z)).2
theorem lk_str (r : Rel K F μ S H) {i : Str} (bv : BRp K F μ H v b) (h : b.look S = some (.str i)) : v = .str i := rp_str (lk_t r bv h (fun _ z => by cases z)).2
theorem lk_non (r : Rel K F μ S H) (bv : BRp K F μ H v b) (h : b.look S = some .non) : v = .non := rp_non (lk_t r bv h (fun _ z => by cases z)).2
/-! ### data -/
theorem sqT_sub (s : Same F H) {a : Addr} {xs : List V} (h1 : SqT K F a xs) : SqT K H a xs := by
  rcases h1 with (h1 | ⟨o, h1⟩) | h1
  · exact .inl (.inl (s _ _ h1))
  · exact .inl (.inr ⟨o, s _ _ h1⟩)
  · exact .inr h1
mutual
theorem dp_of (s : Same F H) : ∀ {v : V} {d : D}, Rp K F v d → d.plain = true → Dp K H v d.py
  | _, _, .non, _ => .non
  | _, _, .bl b, _ => .bl b
  | _, _, .int i, _ => .int i
  | _, _, .str x, _ => .str x
  | _, _, .tup h r, p => .tup (sqT_sub s h) (dps_of s r (by rw [D.plain] at p; exact p))
  | _, _, .lst h r, p => .lst (SqL.of (s _ _ h)) (dps_of s r (by rw [D.plain] at p; exact p))
  | _, _, .dic _, p => by rw [D.plain] at p; cases p
theorem dps_of (s : Same F H) : ∀ {vs : List V} {ds : List D}, RpL K F vs ds → D.plains ds = true → DpAll K H vs (D.pys ds)
  | _, _, .nil, _ => .nil
  | _, _, .cons h r, p => by
    rw [D.plains] at p
    obtain ⟨p1, p2⟩ := Bool.and_eq_true_iff.mp p
    exact .cons (dp_of s h p1) (dps_of s r p2)
end
theorem lk_dp (r : Rel K F μ S H) (bv : BRp K F μ H v b) (h : b.look S = some d) (p : d.plain = true) : Dp K H v d.py := by
  cases d with
  | lst ds =>
    obtain ⟨a, xs, e, h1, h2⟩ := lk_lst r bv h
    subst e
    exact .lst h1 (dps_of r.sub h2 (by rw [D.plain] at p; exact p))
  | _ => exact dp_of r.sub (lk_t r bv h (fun _ z => by cases z)).2 p
theorem rpl_ints : ∀ {ds : List D} {ns : List Int} {xs : List V}, intsOf ds = some ns → RpL K F xs ds → xs = ns.map V.int
  | [], ns, xs, e, r => by
    cases e
    cases r
    rfl
  | .int i :: ds, ns, xs, e, r => by
    cases q : intsOf ds with
    | none => rw [intsOf, q] at e; cases e
    | some ms =>
      rw [intsOf, q] at e
      cases e
      cases r with
      | cons h t =>
        cases h
        rw [rpl_ints q t]
        rfl
  | .non :: _, _, _, e, _ => by cases e
  | .bl _ :: _, _, _, e, _ => by cases e
  | .str _ :: _, _, _, e, _ => by cases e
  | .tup _ :: _, _, _, e, _ => by cases e
  | .lst _ :: _, _, _, e, _ => by cases e
  | .ins _ _ :: _, _, _, e, _ => by cases e
  | .dic :: _, _, _, e, _ => by cases e
theorem rpl_bls : ∀ {ds : List D} {ns : List Bool} {xs : List V}, blsOf ds = some ns → RpL K F xs ds → xs = ns.map V.bl
  | [], ns, xs, e, r => by
    cases e
    cases r
    rfl
  | .bl i :: ds, ns, xs, e, r => by
    cases q : blsOf ds with
    | none => rw [blsOf, q] at e; cases e
    | some ms =>
      rw [blsOf, q] at e
      cases e
      cases r with
      | cons h t =>
        cases h
        rw [rpl_bls q t]
        rfl
  | .non :: _, _, _, e, _ => by cases e
  | .int _ :: _, _, _, e, _ => by cases e
  | .str _ :: _, _, _, e, _ => by cases e
  | .tup _ :: _, _, _, e, _ => by cases e
  | .lst _ :: _, _, _, e, _ => by cases e
  | .ins _ _ :: _, _, _, e, _ => by cases e
  | .dic :: _, _, _, e, _ => by cases e
theorem flat_rp {v : V} {d : D} (h : Rp K F v d) (f : d.flat = true) : flatV v = true := by
  cases h with
  | tup => cases f
  | lst => cases f
  | dic => cases f
  | _ => rfl
theorem flats_rp : ∀ {vs : List V} {ds : List D}, RpL K F vs ds → ds.all D.flat = true → vs.all flatV = true
  | _, _, .nil, _ => rfl
  | _, _, .cons h r, f => by
    rw [List.all_cons, Bool.and_eq_true] at f
    rw [List.all_cons, Bool.and_eq_true]
    exact ⟨flat_rp h f.1, flats_rp r f.2⟩
theorem eqv_flat {v w : V} {d e : D} (h : Rp K F v d) (k : Rp K F w e) (f : d.flat = true) (g : e.flat = true) : eqV v w = PyData.eqv d.py e.py := by
  cases h with
  | tup => cases f
  | lst => cases f
  | dic => cases f
  | _ => cases k with
    | tup => cases g
    | lst => cases g
    | dic => cases g
    | _ => rfl
theorem in_flat {v : V} {d : D} (h : Rp K F v d) (f : d.flat = true) : ∀ {vs : List V} {ds : List D}, RpL K F vs ds → ds.all D.flat = true → inV v vs = memB d ds
  | _, _, .nil, _ => rfl
  | _, _, .cons (v := w) (vs := vs) (d := e) (ds := ds) q r, g => by
    rw [List.all_cons, Bool.and_eq_true] at g
    have ih := in_flat h f r g.2
    unfold inV memB at *
    rw [List.any_cons, List.any_cons, ih, eqv_flat q h g.1 f]
    rfl
end
section
variable {X : Cx} {K : PySem.W.Frag} {xc : Nat → Option XCls} {W : WX} {F : Hp} {μ : List Addr} {S : Store} {H : Hp} {σ : L2.St} {x y : V} {bx bY : B} {Q : VK}
/-! ### operators -/
def CPowX (i j : Int) : Prop := 0 ≤ j ∧ (Builtin.Int.intBits i : Int) * j ≤ 2 ^ 27
theorem op_powX : OpR X (binaryOp .Pow) (rI CPowX fun i j => .int (i ^ j.toNat)) := opI fun _ _ _ _ _ _ _ hc q => pow_int hc.1 hc.2 q
abbrev rAddS : R2 := fun x y H Q => ∃ i j, x = .str i ∧ y = .str j ∧ i.length + j.length ≤ sizeLine ∧ Q (.str (i ++ j)) H
abbrev rAddA (K : PySem.W.Frag) : R2 := fun x y H Q => rI0 (fun i j => .int (i + j)) x y H Q ∨ (rAddS x y H Q ∨ (rCat x y H Q ∨ rCatA K x y H Q))
theorem op_addA : OpR X (binaryOp .Add) (rAddA X.K) := op_add.or (op_add_str.or (op_cat.or op_catA))
abbrev rMulA (K : PySem.W.Frag) : R2 := fun x y H Q => rI CMulW (fun i j => .int (i * j)) x y H Q ∨ (rRep x y H Q ∨ rRepT K x y H Q)
theorem op_mulA : OpR X (binaryOp .Mult) (rMulA X.K) := op_mulW.or (op_rep.or op_repT)
/-- what an operator of the interpreter does by values -/
def g2 (op : Op2) (x y : B) (s : Store) : R B := .of ((x.peek s).bind fun x => (y.peek s).bind fun y => op2 op x y) s
def c2 (op : Cm) (x y : B) (s : Store) : R B := .of ((x.peek s).bind fun x => (y.peek s).bind fun y => (cmp2 op x y).map fun b => .t (.bl b)) s
theorem of_some {α : Type} {o : Option α} {s : Store} {F H : Hp} {σ : L2.St} {P : R α → Prop} (h : P (.of o s)) (hb : ¬ P .bad) : ∃ a, o = some a ∧ P (.ok a s) := by
  cases o with
  | none => exact absurd h hb
  | some a => exact ⟨a, rfl, h⟩
theorem g2_some {op : Op2} (h : okE K xc μ W F H σ (g2 op bx bY S) Q) : ∃ d e b, bx.peek S = some d ∧ bY.peek S = some e ∧ op2 op d e = some b ∧ okE K xc μ W F H σ (.ok b S) Q := by
  obtain ⟨b, e, h⟩ := of_some (F := F) (H := H) (σ := σ) (P := fun r => okE K xc μ W F H σ r Q) h (fun z => z)
  cases q : bx.peek S with
  | none => rw [q] at e; cases e
  | some d =>
    rw [q] at e
    cases q2 : bY.peek S with
    | none => rw [q2] at e; cases e
    | some d' => rw [q2] at e; exact ⟨d, d', b, rfl, rfl, e, h⟩
theorem c2_some {op : Cm} (h : okE K xc μ W F H σ (c2 op bx bY S) Q) : ∃ d e b, bx.peek S = some d ∧ bY.peek S = some e ∧ cmp2 op d e = some b ∧ okE K xc μ W F H σ (.ok (.t (.bl b)) S) Q := by
  obtain ⟨b, e, h⟩ := of_some (F := F) (H := H) (σ := σ) (P := fun r => okE K xc μ W F H σ r Q) h (fun z => z)
  cases q : bx.peek S with
  | none => rw [q] at e; cases e
  | some d =>
    rw [q] at e
    cases q2 : bY.peek S with
    | none => rw [q2] at e; cases e
    | some d' =>
      rw [q2] at e
      obtain ⟨k, e1, e2⟩ := Option.map_eq_some_iff.mp e
      subst e2
      exact ⟨d, d', k, rfl, rfl, e1, h⟩
theorem hop_add (r : Rel K F μ S H) (hx : BRp K F μ H x bx) (hy : BRp K F μ H y bY) (h : okE K xc μ W F H σ (g2 .add bx bY S) Q) : rAddA K x y H Q := by
  obtain ⟨d, e, b, p1, p2, e2, h⟩ := g2_some h
  have e3 : opAdd d e = some b := e2
  unfold opAdd at e3
  split at e3
  · cases e3
    rw [lk_int r hx (look_of_peek p1), lk_int r hy (look_of_peek p2)]
    exact .inl ⟨_, _, rfl, rfl, okE_val h r (.int _) trivial⟩
  · split at e3
    · cases e3
      rename_i hl
      rw [lk_str r hx (look_of_peek p1), lk_str r hy (look_of_peek p2)]
      exact .inr (.inl ⟨_, _, rfl, rfl, by rw [← line_eq]; exact hl, okE_val h r (.str _) trivial⟩)
    · cases e3
  · split at e3
    · cases e3
      rename_i hl
      obtain ⟨a, xs, ea, ha, ra⟩ := pk_lst r hx p1
      obtain ⟨c, ys, ec, hc, rc⟩ := pk_lst r hy p2
      exact .inr (.inr (.inl ⟨a, c, xs, ys, ea, ec, ha, hc, by rw [ra.length, rc.length, ← line_eq]; exact hl, fun p hp => okE_lst h r (ra.append rc) hp⟩))
    · cases e3
  · split at e3
    · cases e3
      rename_i hl
      obtain ⟨a, xs, ea, ha, ra⟩ := lk_tup r hx (look_of_peek p1)
      obtain ⟨c, ys, ec, hc, rc⟩ := lk_tup r hy (look_of_peek p2)
      obtain ⟨_, tx⟩ := lk_t r hx (look_of_peek p1) (fun _ z => by cases z)
      obtain ⟨_, ty⟩ := lk_t r hy (look_of_peek p2) (fun _ z => by cases z)
      refine .inr (.inr (.inr ⟨a, c, xs, ys, ea, ec, ha, hc, by rw [ra.length, rc.length, ← line_eq]; exact hl, fun z => ?_, fun _ z => ?_, fun _ _ p hp => okE_tup h r (ra.append rc) hp⟩))
      · have z2 := ra.nil_iff.mp z
        subst z2
        rw [← ec]
        exact okE_val h r ty trivial
      · have z2 := rc.nil_iff.mp z
        subst z2
        rw [List.append_nil] at h
        rw [← ea]
        exact okE_val h r tx trivial
    · cases e3
  · cases e3
theorem hop_sub (r : Rel K F μ S H) (hx : BRp K F μ H x bx) (hy : BRp K F μ H y bY) (h : okE K xc μ W F H σ (g2 .sub bx bY S) Q) : rI0 (fun i j => .int (i - j)) x y H Q := by
  obtain ⟨d, e, b, p1, p2, e2, h⟩ := g2_some h
  have e3 : opSub d e = some b := e2
  unfold opSub at e3
  split at e3
  · cases e3
    rw [lk_int r hx (look_of_peek p1), lk_int r hy (look_of_peek p2)]
    exact ⟨_, _, rfl, rfl, okE_val h r (.int _) trivial⟩
  · cases e3
theorem mul_ok {i j : Int} (h : mulOk i j = true) : CMulW i j := by
  unfold mulOk at h
  have h2 := of_decide_eq_true h
  exact h2
theorem hop_mul (r : Rel K F μ S H) (hx : BRp K F μ H x bx) (hy : BRp K F μ H y bY) (h : okE K xc μ W F H σ (g2 .mul bx bY S) Q) : rMulA K x y H Q := by
  obtain ⟨d, e, b, p1, p2, e2, h⟩ := g2_some h
  have e3 : opMul d e = some b := e2
  unfold opMul at e3
  split at e3
  · split at e3
    · cases e3
      rename_i hl
      rw [lk_int r hx (look_of_peek p1), lk_int r hy (look_of_peek p2)]
      exact .inl ⟨_, _, rfl, rfl, mul_ok hl, okE_val h r (.int _) trivial⟩
    · cases e3
  · split at e3
    · cases e3
      rename_i hl
      obtain ⟨a, xs, ea, ha, ra⟩ := pk_lst r hx p1
      rw [lk_int r hy (look_of_peek p2)]
      exact .inr (.inl ⟨a, _, xs, ea, rfl, ha, by omega, by omega, by rw [ra.length, ← line_eq]; exact hl.2.2, fun p hp => okE_lst h r (ra.rep _) hp⟩)
    · cases e3
  · split at e3
    · cases e3
      rename_i hl
      obtain ⟨a, xs, ea, ha, ra⟩ := lk_tup r hx (look_of_peek p1)
      rw [lk_int r hy (look_of_peek p2)]
      refine .inr (.inr ⟨a, _, xs, ea, rfl, ha, fun z => hl.1 ?_, hl.2.1, hl.2.2.1, by rw [ra.length]; exact hl.2.2.2, fun p hp => okE_tup h r (ra.rep _) hp⟩)
      rw [← ra.length, z]
      rfl
    · cases e3
  · cases e3
theorem hop_mod (r : Rel K F μ S H) (hx : BRp K F μ H x bx) (hy : BRp K F μ H y bY) (h : okE K xc μ W F H σ (g2 .mod bx bY S) Q) : rI (fun _ j => 0 < j) (fun i j => .int (i % j)) x y H Q := by
  obtain ⟨d, e, b, p1, p2, e2, h⟩ := g2_some h
  have e3 : opMod d e = some b := e2
  unfold opMod at e3
  split at e3
  · split at e3
    · cases e3
      rename_i hl
      rw [lk_int r hx (look_of_peek p1), lk_int r hy (look_of_peek p2)]
      exact ⟨_, _, rfl, rfl, hl, okE_val h r (.int _) trivial⟩
    · cases e3
  · cases e3
theorem hop_fdiv (r : Rel K F μ S H) (hx : BRp K F μ H x bx) (hy : BRp K F μ H y bY) (h : okE K xc μ W F H σ (g2 .fdiv bx bY S) Q) : rI CDivW (fun i j => .int (i / j)) x y H Q := by
  obtain ⟨d, e, b, p1, p2, e2, h⟩ := g2_some h
  have e3 : opFdiv d e = some b := e2
  unfold opFdiv at e3
  split at e3
  · split at e3
    · cases e3
      rename_i hl
      rw [lk_int r hx (look_of_peek p1), lk_int r hy (look_of_peek p2)]
      exact ⟨_, _, rfl, rfl, hl, okE_val h r (.int _) trivial⟩
    · cases e3
  · cases e3
theorem intBits_le (i : Int) : Builtin.Int.intBits i ≤ i.natAbs.log2 + 1 := by
  unfold Builtin.Int.intBits
  split <;> omega
theorem hop_pow (r : Rel K F μ S H) (hx : BRp K F μ H x bx) (hy : BRp K F μ H y bY) (h : okE K xc μ W F H σ (g2 .pow bx bY S) Q) : rI CPowX (fun i j => .int (i ^ j.toNat)) x y H Q := by
  obtain ⟨d, e, b, p1, p2, e2, h⟩ := g2_some h
  have e3 : opPow d e = some b := e2
  unfold opPow at e3
  split at e3
  · split at e3
    · cases e3
      rename_i i j hl
      rw [lk_int r hx (look_of_peek p1), lk_int r hy (look_of_peek p2)]
      unfold powOk at hl
      rw [Bool.and_eq_true] at hl
      have h1 := of_decide_eq_true hl.1
      have h2 := of_decide_eq_true hl.2
      refine ⟨_, _, rfl, rfl, ⟨h1, ?_⟩, okE_val h r (.int _) trivial⟩
      have h3 : (Builtin.Int.intBits i : Int) * j ≤ ((i.natAbs.log2 + 1 : Nat) : Int) * j := Int.mul_le_mul_of_nonneg_right (Int.ofNat_le.mpr (intBits_le i)) h1
      omega
    · cases e3
  · cases e3
/-! ### comparisons -/
abbrev rLtA (K : PySem.W.Frag) : R2 := fun x y H Q => rI0 (fun i j => .bl (decide (i < j))) x y H Q ∨ rLtT K x y H Q
theorem op_ltA (hu : X.A.units < cLine) : OpR X (compareOp .Lt) (rLtA X.K) := op_lt.or (op_ltT hu)
theorem hop_eq (r : Rel K F μ S H) (hx : BRp K F μ H x bx) (hy : BRp K F μ H y bY) (h : okE K xc μ W F H σ (c2 .eq bx bY S) Q) : rEqD K x y H Q ∨ rEq x y H Q := by
  obtain ⟨d, e, b, p1, p2, e2, h⟩ := c2_some h
  have e3 : (if eqOk d e then some (eqB d e) else none) = some b := e2
  split at e3
  · cases e3
    rename_i hl
    unfold eqOk at hl
    rcases Bool.or_eq_true_iff.mp hl with hl | hl
    · cases d with
      | str i => cases e with
        | str j =>
          rw [lk_str r hx (look_of_peek p1), lk_str r hy (look_of_peek p2)]
          refine .inr ⟨rfl, ?_⟩
          rw [dec_str]
          have q : eqB (.str i) (.str j) = (i == j) := by unfold eqB; rw [D.py, D.py, PyData.eqv]
          rw [q] at h
          exact okE_val h r (.bl _) trivial
        | _ => cases hl
      | _ => cases hl
    simp only [Bool.and_eq_true] at hl
    exact .inl ⟨_, _, lk_dp r hx (look_of_peek p1) hl.1.1.1, lk_dp r hy (look_of_peek p2) hl.1.1.2, hl.1.2, hl.2, okE_val h r (.bl _) trivial⟩
  · cases e3
theorem hop_ne (r : Rel K F μ S H) (hx : BRp K F μ H x bx) (hy : BRp K F μ H y bY) (h : okE K xc μ W F H σ (c2 .ne bx bY S) Q) : rNeD K x y H Q ∨ rNe x y H Q := by
  obtain ⟨d, e, b, p1, p2, e2, h⟩ := c2_some h
  have e3 : (if eqOk d e then some (!eqB d e) else none) = some b := e2
  split at e3
  · cases e3
    rename_i hl
    unfold eqOk at hl
    rcases Bool.or_eq_true_iff.mp hl with hl | hl
    · cases d with
      | str i => cases e with
        | str j =>
          rw [lk_str r hx (look_of_peek p1), lk_str r hy (look_of_peek p2)]
          refine .inr ⟨rfl, ?_⟩
          rw [dec_str]
          have q : eqB (.str i) (.str j) = (i == j) := by unfold eqB; rw [D.py, D.py, PyData.eqv]
          rw [q] at h
          exact okE_val h r (.bl _) trivial
        | _ => cases hl
      | _ => cases hl
    simp only [Bool.and_eq_true] at hl
    exact .inl ⟨_, _, lk_dp r hx (look_of_peek p1) hl.1.1.1, lk_dp r hy (look_of_peek p2) hl.1.1.2, hl.1.2, hl.2, okE_val h r (.bl _) trivial⟩
  · cases e3
theorem lex_eq : ∀ xs ys : List Int, lexLt xs ys = HT.lexLt xs ys
  | [], [] => rfl
  | [], _ :: _ => rfl
  | _ :: _, [] => rfl
  | x :: xs, y :: ys => by
    unfold lexLt HT.lexLt
    rw [lex_eq xs ys]
theorem hop_lt (r : Rel K F μ S H) (hx : BRp K F μ H x bx) (hy : BRp K F μ H y bY) (h : okE K xc μ W F H σ (c2 .lt bx bY S) Q) : rLtA K x y H Q := by
  obtain ⟨d, e, b, p1, p2, e2, h⟩ := c2_some h
  have e3 : cmLt d e = some b := e2
  unfold cmLt at e3
  split at e3
  · cases e3
    rw [lk_int r hx (look_of_peek p1), lk_int r hy (look_of_peek p2)]
    exact .inl ⟨_, _, rfl, rfl, okE_val h r (.bl _) trivial⟩
  · split at e3
    · cases e3
      rename_i h1 h2
      obtain ⟨a, xs, ea, ha, ra⟩ := lk_tup r hx (look_of_peek p1)
      obtain ⟨c, ys, ec, hc, rc⟩ := lk_tup r hy (look_of_peek p2)
      rw [rpl_ints h1 ra] at ha
      rw [rpl_ints h2 rc] at hc
      rw [lex_eq] at h
      exact .inr ⟨a, c, _, _, ea, ec, ha, hc, okE_val h r (.bl _) trivial⟩
    · cases e3
  · cases e3
theorem hop_cmI {p : Int → Int → Bool} {op : Cm} (he : cmp2 op = cmI p) (r : Rel K F μ S H) (hx : BRp K F μ H x bx) (hy : BRp K F μ H y bY) (h : okE K xc μ W F H σ (c2 op bx bY S) Q) : rI0 (fun i j => .bl (p i j)) x y H Q := by
  obtain ⟨d, e, b, p1, p2, e2, h⟩ := c2_some h
  rw [he] at e2
  unfold cmI at e2
  split at e2
  · cases e2
    rw [lk_int r hx (look_of_peek p1), lk_int r hy (look_of_peek p2)]
    exact ⟨_, _, rfl, rfl, okE_val h r (.bl _) trivial⟩
  · cases e2
theorem non_iff (r : Rel K F μ S H) {v : V} {b : B} {d : D} (bv : BRp K F μ H v b) (h : b.look S = some d) : decide (v = .non) = d.isNon := by
  cases d with
  | lst ds =>
    obtain ⟨a, xs, e, _⟩ := lk_lst r bv h
    rw [e]; rfl
  | tup ds =>
    obtain ⟨a, xs, e, _⟩ := lk_tup r bv h
    rw [e]; rfl
  | dic =>
    obtain ⟨_, h2⟩ := lk_t r bv h (fun _ z => by cases z)
    cases h2
    rfl
  | non => rw [lk_non r bv h]; rfl
  | bl _ => rw [lk_bl r bv h]; rfl
  | int _ => rw [lk_int r bv h]; rfl
  | str _ => rw [lk_str r bv h]; rfl
  | ins _ _ =>
    obtain ⟨_, q⟩ := lk_t r bv h (fun _ z => by cases z)
    cases q
theorem beq_t (b : Bool) : (b == true) = b := by cases b <;> rfl
theorem beq_f (b : Bool) : (b == false) = !b := by cases b <;> rfl
theorem hop_isN (r : Rel K F μ S H) (hx : BRp K F μ H x bx) (hy : BRp K F μ H y bY) (h : okE K xc μ W F H σ (c2 .isN bx bY S) Q) : y = .non ∧ Q (.bl (decide (x = .non))) H := by
  obtain ⟨d, e, b, p1, p2, e2, h⟩ := c2_some h
  have e3 : cmN true d e = some b := e2
  unfold cmN at e3
  split at e3
  · cases e3
    refine ⟨lk_non r hy (look_of_peek p2), ?_⟩
    rw [non_iff r hx (look_of_peek p1)]
    have := okE_val h r (.bl _) trivial
    rwa [beq_t] at this
  · cases e3
theorem hop_notN (r : Rel K F μ S H) (hx : BRp K F μ H x bx) (hy : BRp K F μ H y bY) (h : okE K xc μ W F H σ (c2 .notN bx bY S) Q) : y = .non ∧ Q (.bl (!decide (x = .non))) H := by
  obtain ⟨d, e, b, p1, p2, e2, h⟩ := c2_some h
  have e3 : cmN false d e = some b := e2
  unfold cmN at e3
  split at e3
  · cases e3
    refine ⟨lk_non r hy (look_of_peek p2), ?_⟩
    rw [non_iff r hx (look_of_peek p1)]
    have := okE_val h r (.bl _) trivial
    rwa [beq_f] at this
  · cases e3
theorem hop_in {k : Bool} {op : Cm} (he : cmp2 op = cmIn k) (r : Rel K F μ S H) (hx : BRp K F μ H x bx) (hy : BRp K F μ H y bY) (h : okE K xc μ W F H σ (c2 op bx bY S) Q) : rIn K (!k) x y H Q := by
  obtain ⟨d, e, b, p1, p2, e2, h⟩ := c2_some h
  rw [he] at e2
  have fin : ∀ {p : Addr} {xs : List V} {ds : List D}, y = .ref p → (SqL K H p xs ∨ SqT K H p xs) → RpL K F xs ds → memOk d ds = true → okE K xc μ W F H σ (.ok (.t (.bl (memB d ds == k))) S) Q → rIn K (!k) x y H Q := by
    intro p xs ds ey hs rs hm h
    unfold memOk at hm
    rw [Bool.and_eq_true] at hm
    obtain ⟨_, qx⟩ := lk_t r hx (look_of_peek p1) (fun _ z => by rw [z] at hm; cases hm.1)
    refine ⟨p, xs, ey, hs, flat_rp qx hm.1, flats_rp rs hm.2, ?_⟩
    rw [in_flat qx hm.1 rs hm.2]
    have := okE_val h r (.bl _) trivial
    cases k with
    | true => rwa [beq_t] at this
    | false => rwa [beq_f] at this
  unfold cmIn at e2
  split at e2
  · split at e2
    · cases e2
      rename_i hm
      obtain ⟨a, xs, ea, ha, ra⟩ := lk_lst r hy (look_of_peek p2)
      exact fin ea (.inl ha) ra hm h
    · cases e2
  · split at e2
    · cases e2
      rename_i hm
      obtain ⟨a, xs, ea, ha, ra⟩ := lk_tup r hy (look_of_peek p2)
      exact fin ea (.inr ha) ra hm h
    · cases e2
  · cases e2
/-! ### truth -/
theorem tru_of (r : Rel K F μ S H) {v : V} {b : B} {k : Bool} (bv : BRp K F μ H v b) (h : truB b S = some k) : TruV K v H k := by
  unfold truB at h
  cases q : b.look S with
  | none => rw [q] at h; cases h
  | some d =>
    rw [q] at h
    have h : d.tru = some k := h
    cases d with
    | dic => cases h
    | non => cases h; rw [lk_non r bv q]; rfl
    | bl _ => cases h; rw [lk_bl r bv q]; rfl
    | int _ => cases h; rw [lk_int r bv q]; rfl
    | str s =>
      have h' : (if s.length ≤ line then some (s.length != 0) else none) = some k := h
      by_cases hl : s.length ≤ line
      · rw [if_pos hl] at h'
        have hk := Option.some.inj h'
        rw [lk_str r bv q, ← hk]
        refine ⟨by rw [← line_eq]; exact hl, ?_⟩
        by_cases z : s.length = 0
        · rw [z]; rfl
        · have z2 : ¬ ((s.length : Int) = 0) := by omega
          rw [bne_iff_ne.mpr z, bne_iff_ne.mpr z2]
      · rw [if_neg hl] at h'
        cases h'
    | tup ds =>
      cases h
      obtain ⟨a, xs, e, h1, h2⟩ := lk_tup r bv q
      rw [e]
      refine .inr (.inl ⟨xs, h1, ?_⟩)
      cases h2 <;> rfl
    | lst ds =>
      cases h
      obtain ⟨a, xs, e, h1, h2⟩ := lk_lst r bv q
      rw [e]
      refine .inl ⟨xs, h1, ?_⟩
      cases h2 <;> rfl
    | ins _ _ => cases h
end
end Zw
set_option Elab.async false
set_option linter.all false
set_option maxRecDepth 100000
/-! Zw3: built-ins called, defs called. -/
namespace Zw
open PySem PySem.Spec PyProof.Rows L2
/-! ### the frozen -/
section
variable {K : PySem.W.Frag} {xc : Nat → Option XCls} {W : WX} {F : Hp} {μ : List Addr} {S : Store} {H : Hp} {σ : L2.St}
theorem Rel.still {S : Store} {F1 H1 : Hp} {a : Addr} {xs : List V} (r : Rel K F1 μ S H1) (ha : H1 a = some (.lst xs)) (n : F1 a = none) (m : a ∉ μ) : Rel K (upd F1 a (.lst xs)) μ S H1 := by
  have s : Same F1 (upd F1 a (.lst xs)) := fun b o e => by
    have q : b ≠ a := fun z => by rw [z, n] at e; cases e
    rw [upd_ne q]; exact e
  refine ⟨fun b o e => ?_, r.len, r.nd, fun k b ys e1 e2 => ?_, fun b hb => ?_, fun b o e => ?_, r.tab⟩
  rotate_right
  · by_cases q : b = a
    · rw [q, upd_same] at e; cases e; exact nt_lst
    · rw [upd_ne q] at e; exact r.ft b o e
  · by_cases q : b = a
    · rw [q, upd_same] at e; rw [q, ha]; exact e
    · rw [upd_ne q] at e; exact r.sub b o e
  · obtain ⟨vs, h1, h2⟩ := r.obj k b ys e1 e2
    exact ⟨vs, h1, h2.mono s⟩
  · have q : b ≠ a := fun z => m (by rw [← z]; exact hb)
    rw [upd_ne q]; exact r.dis b hb
theorem Ext.still {F1 H1 : Hp} {a : Addr} {xs : List V} (x : Ext μ F H F1 H1) (n : F1 a = none) (h : Gone H a) : Ext μ F H (upd F1 a (.lst xs)) H1 := by
  refine ⟨fun b o e => ?_, fun b hb => ?_, x.keep, x.live⟩
  · have e1 := x.fs b o e
    have q : b ≠ a := fun z => by rw [z, n] at e1; cases e1
    rw [upd_ne q]; exact e1
  · have q : b ≠ a := goneNe hb h
    rw [upd_ne q]; exact x.fn b hb
/-- a fresh list may be taken for a tree -/
theorem okE_still {r : R B} {Q : VK} (h : okE K xc μ W F H σ (r.bind fun b s => .ok b.still s) Q) : okE K xc μ W F H σ r Q := by
  cases r with
  | ok b S1 =>
    intro F1 H1 v x r1 bv fr
    cases b with
    | own d =>
      obtain ⟨a, xs, ds, e, ed, ha, rs, n, m⟩ := bv
      have hn : Gone H a := fr a e
      refine h (upd F1 a (.lst xs)) H1 v (x.still n hn) (r1.still ha n m) ?_ trivial
      show Rp K _ v d
      rw [e, ed]
      exact .lst upd_same (rs.mono (fun b o e => by
        have q : b ≠ a := fun z => by rw [z, n] at e; cases e
        rw [upd_ne q]; exact e))
    | t d => exact h F1 H1 v x r1 bv fr
    | bor d => exact h F1 H1 v x r1 bv fr
    | sc d => exact h F1 H1 v x r1 bv fr
    | r k => exact h F1 H1 v x r1 bv fr
  | ex c p S1 => exact h
  | bad => exact h
theorem still_frz {b : B} {d : D} (h : b.frz = some d) : b.still = .t d := by
  cases b with
  | t _ => cases h; rfl
  | own _ => cases h; rfl
  | bor _ => cases h
  | sc _ => cases h
  | r _ => cases h
end
/-! ### built-ins -/
section
variable {X : Cx} {K : PySem.W.Frag} {xc : Nat → Option XCls} {W : WX} {F : Hp} {μ : List Addr} {S : Store} {H : Hp} {σ : L2.St} {x y : V} {bx bY : B} {Q : VK}
def h1 (f : Bi) (x : B) (s : Store) : R B := .of ((x.look s).bind (bi1 f)) s
def h2 (f : Bi) (x y : B) (s : Store) : R B := .of ((x.peek s).bind fun x => (y.peek s).bind (bi2 f x)) s
theorem h1_some {f : Bi} (h : okE K xc μ W F H σ (h1 f bx S) Q) : ∃ d b, bx.look S = some d ∧ bi1 f d = some b ∧ okE K xc μ W F H σ (.ok b S) Q := by
  obtain ⟨b, e, h⟩ := of_some (F := F) (H := H) (σ := σ) (P := fun r => okE K xc μ W F H σ r Q) h (fun z => z)
  cases q : bx.look S with
  | none => rw [q] at e; cases e
  | some d => rw [q] at e; exact ⟨d, b, rfl, e, h⟩
theorem h2_some {f : Bi} (h : okE K xc μ W F H σ (h2 f bx bY S) Q) : ∃ d e b, bx.peek S = some d ∧ bY.peek S = some e ∧ bi2 f d e = some b ∧ okE K xc μ W F H σ (.ok b S) Q := by
  obtain ⟨b, e, h⟩ := of_some (F := F) (H := H) (σ := σ) (P := fun r => okE K xc μ W F H σ r Q) h (fun z => z)
  cases q : bx.peek S with
  | none => rw [q] at e; cases e
  | some d =>
    rw [q] at e
    cases q2 : bY.peek S with
    | none => rw [q2] at e; cases e
    | some d' => rw [q2] at e; exact ⟨d, d', b, rfl, rfl, e, h⟩
abbrev RV1 := List V → Hp → VK → Prop
abbrev rLenA (K : PySem.W.Frag) : RV1 := fun xs H Q => (∃ p ys, xs = [.ref p] ∧ (SqL K H p ys ∨ SqT K H p ys) ∧ Q (.int ys.length) H) ∨ (∃ z, xs = [.str z] ∧ z.length ≤ sizeLine ∧ Q (.int z.length) H)
theorem call_lenA : CallR X (.builtin "len") (rLenA X.K) := call_len_seq.or call_len_str
theorem hop_len (r : Rel K F μ S H) (hx : BRp K F μ H x bx) (h : okE K xc μ W F H σ (h1 .len bx S) Q) : rLenA K [x] H Q := by
  obtain ⟨d, b, p1, e2, h⟩ := h1_some h
  have e3 : biLen d = some b := e2
  unfold biLen at e3
  split at e3
  · cases e3
    obtain ⟨a, xs, ea, ha, ra⟩ := lk_tup r hx p1
    exact .inl ⟨a, xs, by rw [ea], .inr ha, by rw [ra.length]; exact okE_val h r (.int _) trivial⟩
  · cases e3
    obtain ⟨a, xs, ea, ha, ra⟩ := lk_lst r hx p1
    exact .inl ⟨a, xs, by rw [ea], .inl ha, by rw [ra.length]; exact okE_val h r (.int _) trivial⟩
  · split at e3
    · cases e3
      rename_i hl
      exact .inr ⟨_, by rw [lk_str r hx p1], by rw [← line_eq]; exact hl, okE_val h r (.int _) trivial⟩
    · cases e3
  · cases e3
theorem hop_abs (r : Rel K F μ S H) (hx : BRp K F μ H x bx) (h : okE K xc μ W F H σ (h1 .abs bx S) Q) : ∃ i, [x] = [V.int i] ∧ Q (.int (if i < 0 then -i else i)) H := by
  obtain ⟨d, b, p1, e2, h⟩ := h1_some h
  have e3 : biAbs d = some b := e2
  unfold biAbs at e3
  split at e3
  · cases e3
    exact ⟨_, by rw [lk_int r hx p1], okE_val h r (.int _) trivial⟩
  · cases e3
theorem hop_int (r : Rel K F μ S H) (hx : BRp K F μ H x bx) (h : okE K xc μ W F H σ (h1 .int bx S) Q) : (∃ i, [x] = [V.int i] ∧ Q (.int i) H) ∨ ∃ k, [x] = [V.bl k] ∧ Q (.int (if k then 1 else 0)) H := by
  obtain ⟨d, b, p1, e2, h⟩ := h1_some h
  have e3 : biInt d = some b := e2
  unfold biInt at e3
  split at e3
  · cases e3
    exact .inl ⟨_, by rw [lk_int r hx p1], okE_val h r (.int _) trivial⟩
  · cases e3
    exact .inr ⟨_, by rw [lk_bl r hx p1], okE_val h r (.int _) trivial⟩
  · cases e3
theorem hop_all (r : Rel K F μ S H) (hx : BRp K F μ H x bx) (h : okE K xc μ W F H σ (h1 .all bx S) Q) : rAll K [x] H Q := by
  obtain ⟨d, b, p1, e2, h⟩ := h1_some h
  have e3 : biAll (fun bs => bs.all id) d = some b := e2
  unfold biAll at e3
  split at e3
  · obtain ⟨bs, e4, e5⟩ := Option.map_eq_some_iff.mp e3
    subst e5
    obtain ⟨a, xs, ea, ha, ra⟩ := lk_lst r hx p1
    rw [rpl_bls e4 ra] at ha
    exact ⟨a, bs, by rw [ea], ha, okE_val h r (.bl _) trivial⟩
  · cases e3
theorem hop_any (r : Rel K F μ S H) (hx : BRp K F μ H x bx) (h : okE K xc μ W F H σ (h1 .any bx S) Q) : rAny K [x] H Q := by
  obtain ⟨d, b, p1, e2, h⟩ := h1_some h
  have e3 : biAll (fun bs => bs.any id) d = some b := e2
  unfold biAll at e3
  split at e3
  · obtain ⟨bs, e4, e5⟩ := Option.map_eq_some_iff.mp e3
    subst e5
    obtain ⟨a, xs, ea, ha, ra⟩ := lk_lst r hx p1
    rw [rpl_bls e4 ra] at ha
    exact ⟨a, bs, by rw [ea], ha, okE_val h r (.bl _) trivial⟩
  · cases e3
theorem hop_sum (r : Rel K F μ S H) (hx : BRp K F μ H x bx) (h : okE K xc μ W F H σ (h1 .sum bx S) Q) : rSum K [x] H Q := by
  obtain ⟨d, b, p1, e2, h⟩ := h1_some h
  have e3 : biSum d = some b := e2
  unfold biSum at e3
  split at e3
  · obtain ⟨bs, e4, e5⟩ := Option.map_eq_some_iff.mp e3
    subst e5
    obtain ⟨a, xs, ea, ha, ra⟩ := lk_lst r hx p1
    rw [rpl_ints e4 ra] at ha
    exact ⟨a, bs, by rw [ea], ha, okE_val h r (.int _) trivial⟩
  · cases e3
theorem hop_tuple (r : Rel K F μ S H) (hx : BRp K F μ H x bx) (h : okE K xc μ W F H σ (h1 .tuple bx S) Q) :
    ∃ p ys, [x] = [V.ref p] ∧ ((SqL K H p ys ∧ ∀ l, H l = none → Q (.ref l) (upd H l (.tup ys))) ∨ (SqT K H p ys ∧ Q (.ref p) H)) := by
  obtain ⟨d, b, p1, e2, h⟩ := h1_some h
  have e3 : biTuple d = some b := e2
  unfold biTuple at e3
  split at e3
  · cases e3
    obtain ⟨a, xs, ea, ha, ra⟩ := lk_tup r hx p1
    obtain ⟨_, tx⟩ := lk_t r hx p1 (fun _ z => by cases z)
    exact ⟨a, xs, by rw [ea], .inr ⟨ha, by rw [← ea]; exact okE_val h r tx trivial⟩⟩
  · cases e3
    obtain ⟨a, xs, ea, ha, ra⟩ := lk_lst r hx p1
    exact ⟨a, xs, by rw [ea], .inl ⟨ha, fun l hl => okE_tup h r ra hl⟩⟩
  · cases e3
theorem hop_list (r : Rel K F μ S H) (hx : BRp K F μ H x bx) (h : okE K xc μ W F H σ (h1 .list bx S) Q) :
    ∃ p ys, [x] = [V.ref p] ∧ (SqL K H p ys ∨ SqT K H p ys) ∧ ∀ l, H l = none → Q (.ref l) (upd H l (.lst ys)) := by
  obtain ⟨d, b, p1, e2, h⟩ := h1_some h
  have e3 : biList d = some b := e2
  unfold biList at e3
  split at e3
  · cases e3
    obtain ⟨a, xs, ea, ha, ra⟩ := lk_tup r hx p1
    exact ⟨a, xs, by rw [ea], .inr ha, fun l hl => okE_lst h r ra hl⟩
  · cases e3
    obtain ⟨a, xs, ea, ha, ra⟩ := lk_lst r hx p1
    exact ⟨a, xs, by rw [ea], .inl ha, fun l hl => okE_lst h r ra hl⟩
  · cases e3
/-- repr of plain data -/
def rRepr (K : PySem.W.Frag) : RV1 := fun xs H Q => ∃ x d, xs = [x] ∧ Dp K H x d ∧ d.showable = true ∧ d.hasDict = false ∧ d.depth ≤ 64 ∧ d.shown.length ≤ sizeLine ∧ Q (.str d.shown) H
theorem call_reprA {k : Nat} (hr : Room k X.A) (hg : X.A.guards = some []) : CallR X (.builtin "repr") (rRepr X.K) := by
  intro pins s σ H xs us Q I r h
  obtain ⟨x, d, rfl, hd, hs, hn, hdp, hz, q⟩ := h
  obtain ⟨u, rfl, ru⟩ := r.one
  have hu := hr.un
  cases hd with
  | non => cases (show u = Value.none from ru); exact PySem.P.repr_of_none ⟨.str _, H, I.tok _, ⟨_, rfl⟩, q⟩
  | bl b =>
    cases (show u = Value.bool b from ru)
    exact PySem.P.repr_of_bool ⟨.str _, H, I.tok _, ⟨_, rfl⟩, by cases b <;> exact q⟩
  | int i =>
    obtain ⟨t, e⟩ := (show ∃ t, u = Value.int i t from ru)
    subst e
    exact PySem.P.repr_of_int (by simpa [PyData.showable] using hs) ⟨.str _, H, I.tok _, ⟨_, rfl⟩, q⟩
  | str z =>
    obtain ⟨t, e⟩ := (show ∃ t, u = Value.str z t from ru)
    subst e
    exact PySem.P.repr_of_str ⟨.str _, H, I.tok _, ⟨_, rfl⟩, q⟩ hz
  | @lst a xs ds h1 h2 =>
    obtain ⟨as, rd⟩ := Dp.reads I (.list ds) (.ref a) u (.lst h1 h2) ru
    cases (show u = Value.ref a from ru)
    exact repr_of_reads' rd hs (fun z => by rw [hn] at z; cases z) hg (by omega) (fun _ _ e => e) (fun h' u tk hk => ⟨.str _, H, I.kept hk, ⟨_, rfl⟩, q⟩) hz
  | @tup a xs ds h1 h2 =>
    obtain ⟨as, rd⟩ := Dp.reads I (.tuple ds) (.ref a) u (.tup h1 h2) ru
    cases (show u = Value.ref a from ru)
    exact repr_of_reads' rd hs (fun z => by rw [hn] at z; cases z) hg (by omega) (fun _ _ e => e) (fun h' u tk hk => ⟨.str _, H, I.kept hk, ⟨_, rfl⟩, q⟩) hz
mutual
theorem noDict : ∀ d : D, d.py.hasDict = false
  | .non => rfl
  | .bl _ => rfl
  | .int _ => rfl
  | .str _ => rfl
  | .tup xs => noDicts xs
  | .lst xs => noDicts xs
  | .ins _ _ => rfl
  | .dic => rfl
theorem noDicts : ∀ ds : List D, PyData.hasDictAll (D.pys ds) = false
  | [] => rfl
  | x :: xs => by
    show (x.py.hasDict || PyData.hasDictAll (D.pys xs)) = false
    rw [noDict x, noDicts xs] <;> rfl
end
theorem hop_repr (r : Rel K F μ S H) (hx : BRp K F μ H x bx) (h : okE K xc μ W F H σ (h1 .repr bx S) Q) : rRepr K [x] H Q := by
  obtain ⟨d, b, p1, e2, h⟩ := h1_some h
  have e3 : (if reprOk d then some (B.t (.str d.py.shown)) else none) = some b := e2
  split at e3
  · cases e3
    rename_i hl
    unfold reprOk at hl
    simp only [Bool.and_eq_true] at hl
    exact ⟨x, d.py, rfl, lk_dp r hx p1 hl.1.1.1, hl.1.1.2, noDict d, of_decide_eq_true hl.1.2, by rw [← line_eq]; exact of_decide_eq_true hl.2, okE_val h r (.str _) trivial⟩
  · cases e3
/-! isinstance of a built-in class -/
def Ty.name : Ty → Option String
  | .int => some "int"
  | .bool => some "bool"
  | .tuple => some "tuple"
  | .list => some "list"
  | .str => some "str"
  | .dict => some "dict"
  | .cls _ => none
def D.tyName : D → String
  | .non => "NoneType"
  | .bl _ => "bool"
  | .int _ => "int"
  | .str _ => "str"
  | .tup _ => "tuple"
  | .lst _ => "list"
  | .ins _ _ => "object"
  | .dic => "dict"
theorem rp_plainroot {v : V} {d : D} (h : Rp K F v d) : ∀ c fs, d ≠ .ins c fs := by
  intro c fs z
  subst z
  cases h
theorem tyx_of (r : Rel K F μ S H) {d : D} (hx : BRp K F μ H x bx) (h : bx.look S = some d) : TyX K H x (.type d.tyName) := by
  cases d with
  | non => rw [lk_non r hx h]; exact .base .non
  | bl _ => rw [lk_bl r hx h]; exact .base (.bl _)
  | int _ => rw [lk_int r hx h]; exact .base (.int _)
  | str _ => rw [lk_str r hx h]; exact .base (.str _)
  | tup ds =>
    obtain ⟨a, xs, e, h1, _⟩ := lk_tup r hx h
    rw [e]
    rcases h1 with (h1 | ⟨o, h1⟩) | ⟨o, its, n, hk, hc, _⟩
    · exact .base (.tup h1)
    · exact .fTuple h1
    · exact .kTuple hk hc
  | lst ds =>
    obtain ⟨a, xs, e, h1, _⟩ := lk_lst r hx h
    rw [e]
    rcases h1 with (h1 | ⟨o, h1⟩) | ⟨o, its, n, hk, hc, _⟩
    · exact .base (.lst h1)
    · exact .base (.frz h1)
    · exact .kList hk hc
  | ins c fs => exact absurd rfl (rp_plainroot (lk_t r hx h (fun _ z => by cases z)).2 c fs)
  | dic =>
    obtain ⟨_, h2⟩ := lk_t r hx h (fun _ z => by cases z)
    cases h2 with
    | dic e => exact .base (.dK (r.sub _ _ e))
def tyTab (a b : String) : Bool := a == b || (a == "bool" && b == "int")
theorem kit_tab : (["NoneType", "bool", "int", "str", "tuple", "list", "dict"].all fun a => ["int", "bool", "tuple", "list", "str", "dict"].all fun b => kitB a b == some (tyTab a b)) = true := by decide +kernel
theorem kit_d (ty : Ty) (n : String) (hn : ty.name = some n) (d : D) (hp : ∀ c fs, d ≠ .ins c fs) : PySem.W.kitOne K (.type d.tyName) (.type n) = some (isTy ty d) := by
  have e : kitB d.tyName n = some (tyTab d.tyName n) := by
    have h := kit_tab
    rw [List.all_eq_true] at h
    have hd : d.tyName ∈ ["NoneType", "bool", "int", "str", "tuple", "list", "dict"] := by
      cases d <;> first | exact absurd rfl (hp _ _) | simp [D.tyName]
    have h2 := h _ hd
    rw [List.all_eq_true] at h2
    have hm : n ∈ ["int", "bool", "tuple", "list", "str", "dict"] := by
      cases ty <;> cases hn <;> simp
    exact beq_iff_eq.mp (h2 _ hm)
  rw [kit_ty e]
  congr 1
  cases ty <;> cases hn <;> cases d <;> first | exact absurd rfl (hp _ _) | rfl
theorem hop_isi {ty : Ty} {n : String} (hn : ty.name = some n) (r : Rel K F μ S H) (hx : BRp K F μ H x bx) (h : okE K xc μ W F H σ (h1 (.isi ty) bx S) Q) : rIsi K [x, .ty n] H Q := by
  obtain ⟨d, b, p1, e2, h⟩ := h1_some h
  have e3 : some (B.t (.bl (isTy ty d))) = some b := e2
  cases e3
  refine ⟨x, .ty n, _, _, _, rfl, .ty n, tyx_of r hx p1, kit_d ty n hn d (fun c fs z => ?_), okE_val h r (.bl _) trivial⟩
  subst z
  exact rp_plainroot (lk_t r hx p1 (fun _ z => by cases z)).2 c fs rfl
theorem hop_2I {f : Int → Int → Int} {b : Bi} (he : bi2 b = bi2I f) (r : Rel K F μ S H) (hx : BRp K F μ H x bx) (hy : BRp K F μ H y bY) (h : okE K xc μ W F H σ (h2 b bx bY S) Q) : ∃ i j, [x, y] = [V.int i, V.int j] ∧ Q (.int (f i j)) H := by
  obtain ⟨d, e, b', p1, p2, e2, h⟩ := h2_some h
  rw [he] at e2
  unfold bi2I at e2
  split at e2
  · cases e2
    exact ⟨_, _, by rw [lk_int r hx (look_of_peek p1), lk_int r hy (look_of_peek p2)], okE_val h r (.int _) trivial⟩
  · cases e2
end
/-! ### defs -/
/-- what is wanted of a call's result -/
def okC (K : PySem.W.Frag) (xc : Nat → Option XCls) (μ : List Addr) (F H : Hp) (r : R B) (Q : VK) (E : XK) : Prop := match r with
  | .ok b S' => ∀ F' H' v, Ext μ F H F' H' → Rel K F' μ S' H' → BRp K F' μ H' v b → Fresh H v b → Q v H'
  | .ex c p S' => ∀ F' H' cls d, Ext μ F H F' H' → Rel K F' μ S' H' → XR K xc F' H' c p cls d → E cls d H'
  | .bad => False
/-- the def at f does what m says -/
structure FnC (P : Program) (w : World) (K : PySem.W.Frag) (mg : Str → Option Value) (base : Heap) (xc : Nat → Option XCls) (k : Nat) (f : Addr) (m : List B → Store → R B) : Prop where
  run : ∀ (A : Around) (outer : List PySem.Env) (s : Shared) (H : Hp) (us : List Value) (vs : List V) (F : Hp) (μ : List Addr) (S : Store) (bs : List B) (Q : VK) (E : XK),
    Room k A → A.guards = some [] → Env0 P w K mg base A outer s H → Vals vs us → Rel K F μ S H → BRs K F μ H vs bs → okC K xc μ F H (m bs S) Q E →
    codeAny (model P w) A (.call (.ref f) ⟨us, []⟩) (CR (L2.CX P w) outer P w H s Q E) s
section
variable {X : Cx} {K : PySem.W.Frag} {xc : Nat → Option XCls} {W : WX} {F : Hp} {μ : List Addr} {S : Store} {H : Hp} {σ : L2.St} {Q : VK}
theorem getAll_len : ∀ {ks : List Nat} {os : Store}, getAll S ks = some os → ks.length = os.length
  | [], os, h => by cases h; rfl
  | k :: ks, os, h => by
    unfold getAll at h
    cases q : S[k]? with
    | none => rw [q] at h; cases h
    | some o =>
      rw [q] at h
      cases q2 : getAll S ks with
      | none => rw [q2] at h; cases h
      | some os' =>
        rw [q2] at h
        cases h
        simp [getAll_len q2]
theorem getAll_get : ∀ {ks : List Nat} {os : Store} {i : Nat} {k : Nat}, getAll S ks = some os → ks[i]? = some k → S[k]? = os[i]? ∧ k < S.length
  | [], _, _, _, _, e => by simp at e
  | k0 :: ks, os, i, k, h, e => by
    unfold getAll at h
    cases q : S[k0]? with
    | none => rw [q] at h; cases h
    | some o =>
      rw [q] at h
      cases q2 : getAll S ks with
      | none => rw [q2] at h; cases h
      | some os' =>
        rw [q2] at h
        cases h
        cases i with
        | zero =>
          simp at e
          subst e
          exact ⟨by simpa using q, (List.getElem?_eq_some_iff.mp q).1⟩
        | succ i =>
          have := getAll_get q2 (i := i) (by simpa using e)
          simpa using this
theorem putAll_len : ∀ (ks : List Nat) (os S : Store), (putAll S ks os).length = S.length
  | [], os, S => by simp [putAll]
  | _ :: _, [], S => by simp [putAll]
  | k :: ks, o :: os, S => by
    show (putAll (S.set k o) ks os).length = S.length
    rw [putAll_len ks os]
    simp
theorem putAll_out : ∀ {ks : List Nat} {os S : Store} {k : Nat}, k ∉ ks → (putAll S ks os)[k]? = S[k]?
  | [], os, S, _, _ => by simp [putAll]
  | _ :: _, [], S, _, _ => by simp [putAll]
  | k0 :: ks, o :: os, S, k, h => by
    show (putAll (S.set k0 o) ks os)[k]? = S[k]?
    rw [putAll_out (fun z => h (List.mem_cons_of_mem _ z)), List.getElem?_set_ne (fun z => h (by rw [z]; exact List.mem_cons_self))]
theorem putAll_in : ∀ {ks : List Nat} {os S : Store} {k i : Nat}, ks.Nodup → ks.length = os.length → (∀ k ∈ ks, k < S.length) → ks[i]? = some k → (putAll S ks os)[k]? = os[i]?
  | [], _, _, _, _, _, _, _, e => by simp at e
  | _ :: _, [], _, _, _, _, h, _, _ => by simp at h
  | k0 :: ks, o :: os, S, k, i, nd, hl, hs, e => by
    show (putAll (S.set k0 o) ks os)[k]? = (o :: os)[i]?
    obtain ⟨n1, n2⟩ := List.nodup_cons.mp nd
    cases i with
    | zero =>
      simp at e
      subst e
      rw [putAll_out n1, List.getElem?_set_self (hs _ List.mem_cons_self)]
      rfl
    | succ i =>
      simp at e
      rw [putAll_in (i := i) n2 (by simpa using hl) (fun k hk => by rw [List.length_set]; exact hs k (List.mem_cons_of_mem _ hk)) e]
      rfl
theorem Rel.live (r : Rel K F μ S H) {a : Addr} (ha : a ∈ μ) : ¬ Gone H a := fun hp => (r.out hp).2 ha
/-- the addresses of the places ks -/
def adr (μ : List Addr) (k : Nat) : Addr := (μ[k]?).getD 0
theorem adr_of {k : Nat} {a : Addr} (h : μ[k]? = some a) : adr μ k = a := by unfold adr; rw [h]; rfl
theorem refs_ok : ∀ {vs : List V} {bs : List B}, BRs K F μ H vs bs → ∀ k ∈ bs.filterMap B.ref?, ∃ a, μ[k]? = some a
  | _, _, .nil, k, h => by simp at h
  | _, _, .cons (b := b) (bs := bs) h r, k, hk => by
    rw [List.filterMap_cons] at hk
    cases b with
    | r j =>
      rcases List.mem_cons.mp (show k ∈ j :: bs.filterMap B.ref? from hk) with e | hk
      · obtain ⟨a, _, ha⟩ := h
        exact ⟨a, by rw [e]; exact ha⟩
      · exact refs_ok r k hk
    | t _ => exact refs_ok r k hk
    | own _ => exact refs_ok r k hk
    | bor _ => exact refs_ok r k hk
    | sc _ => exact refs_ok r k hk
theorem renum_ok {μ' : List Addr} (hsub : ∀ a ∈ μ', a ∈ μ) : ∀ {vs : List V} {bs : List B} (pre : List Addr), BRs K F μ H vs bs → μ' = pre ++ (bs.filterMap B.ref?).map (adr μ) → BRs K F μ' H vs (renum bs pre.length)
  | _, _, _, .nil, _ => .nil
  | _, _, pre, .cons (b := b) (bs := bs) h r, e => by
    have own : ∀ {d : D} {v : V}, OwnAt K F μ H v d → OwnAt K F μ' H v d := fun ⟨a, xs, ds, e1, e2, e3, e4, e5, e6⟩ => ⟨a, xs, ds, e1, e2, e3, e4, e5, fun z => e6 (hsub a z)⟩
    rw [List.filterMap_cons] at e
    cases b with
    | r j =>
      obtain ⟨a, ea, ha⟩ := h
      have e' : μ' = (pre ++ [a]) ++ (bs.filterMap B.ref?).map (adr μ) := by
        rw [e]
        show pre ++ (adr μ j :: (bs.filterMap B.ref?).map (adr μ)) = _
        rw [adr_of ha, List.append_assoc]
        rfl
      have ih := renum_ok hsub (pre ++ [a]) r e'
      rw [List.length_append] at ih
      refine .cons ⟨a, ea, ?_⟩ ih
      rw [e', List.append_assoc]
      simp
    | t d => exact .cons h (renum_ok hsub pre r e)
    | own d => exact .cons (own h) (renum_ok hsub pre r e)
    | bor d => exact .cons (own h) (renum_ok hsub pre r e)
    | sc d =>
      obtain ⟨a, xs, ds, e1, e2, e3, e4⟩ := h
      exact .cons ⟨a, xs, ds, e1, e2, e3.to fun o h m => ⟨h, fun z => m (hsub a z)⟩, e4⟩ (renum_ok hsub pre r e)
theorem nodup_map {f : Nat → Addr} : ∀ {ks : List Nat}, ks.Nodup → (∀ i ∈ ks, ∀ j ∈ ks, f i = f j → i = j) → (ks.map f).Nodup
  | [], _, _ => by simp
  | k :: ks, nd, h => by
    obtain ⟨n1, n2⟩ := List.nodup_cons.mp nd
    rw [List.map_cons, List.nodup_cons]
    refine ⟨fun z => ?_, nodup_map n2 fun i hi j hj => h i (List.mem_cons_of_mem _ hi) j (List.mem_cons_of_mem _ hj)⟩
    obtain ⟨j, hj, e⟩ := List.mem_map.mp z
    have := h j (List.mem_cons_of_mem _ hj) k List.mem_cons_self e
    subst this
    exact n1 hj
theorem callS_ok {m : List B → Store → R B} {bs : List B} {vs : List V} (hm : okE K xc μ W F H σ (callS m bs S) Q) (r : Rel K F μ S H) (rs : BRs K F μ H vs bs) :
    ∃ μ' os, Rel K F μ' os H ∧ BRs K F μ' H vs (renum bs 0) ∧ okC K xc μ' F H (m (renum bs 0) os) Q (fun cls d H' => W cls d σ H') := by
  unfold callS at hm
  dsimp only at hm
  have nd : (bs.filterMap B.ref?).Nodup := Decidable.byContradiction fun nd => by
    rw [if_neg nd] at hm
    exact hm.elim
  rw [if_pos nd] at hm
  cases ga : getAll S (bs.filterMap B.ref?) with
  | none => rw [ga] at hm; exact hm.elim
  | some os =>
  rw [ga] at hm
  dsimp only at hm
  generalize hks : bs.filterMap B.ref? = ks at *
  have hv : ∀ k ∈ ks, ∃ a, μ[k]? = some a := by rw [← hks]; exact refs_ok rs
  have hin : ∀ a ∈ ks.map (adr μ), a ∈ μ := fun a ha => by
    obtain ⟨k, hk, e⟩ := List.mem_map.mp ha
    obtain ⟨c, hc⟩ := hv k hk
    rw [← e, adr_of hc]
    exact List.mem_of_getElem? hc
  have inj : ∀ i ∈ ks, ∀ j ∈ ks, adr μ i = adr μ j → i = j := fun i hi j hj e => by
    obtain ⟨a, ha⟩ := hv i hi
    obtain ⟨c, hc⟩ := hv j hj
    rw [adr_of ha, adr_of hc] at e
    subst e
    obtain ⟨l1, q1⟩ := List.getElem?_eq_some_iff.mp ha
    obtain ⟨l2, q2⟩ := List.getElem?_eq_some_iff.mp hc
    exact (List.getElem_inj r.nd).mp (q1.trans q2.symm)
  have hlen := getAll_len ga
  have r' : Rel K F (ks.map (adr μ)) os H := by
    refine ⟨r.sub, by rw [List.length_map]; exact hlen, nodup_map nd inj, fun i a xs e1 e2 => ?_, fun a ha => r.dis a (hin a ha), r.ft, r.tab⟩
    rw [List.getElem?_map] at e1
    cases q : ks[i]? with
    | none => rw [q] at e1; cases e1
    | some k =>
      rw [q] at e1
      have ea : adr μ k = a := by simpa using e1
      obtain ⟨c, hc⟩ := hv k (List.mem_of_getElem? q)
      rw [adr_of hc] at ea
      subst ea
      exact r.obj k c xs hc (by rw [(getAll_get ga q).1]; exact e2)
  refine ⟨ks.map (adr μ), os, r', renum_ok hin [] rs (by rw [hks]; rfl), ?_⟩
  have ext : ∀ {F' H' : Hp}, Ext (ks.map (adr μ)) F H F' H' → Ext μ F H F' H' := fun x => ⟨x.fs, x.fn, fun a o h n m => x.keep a o h n (fun z => m (hin a z)), x.live⟩
  have rel : ∀ {F' H' : Hp} {os' : Store}, Ext (ks.map (adr μ)) F H F' H' → Rel K F' (ks.map (adr μ)) os' H' → Rel K F' μ (putAll S ks os') H' := fun {F' H' os'} x r1 => by
    have hl2 : ks.length = os'.length := by have := r1.len; rw [List.length_map] at this; exact this
    refine ⟨r1.sub, by rw [putAll_len]; exact r.len, r.nd, fun k a xs e1 e2 => ?_, fun a ha => ?_, r1.ft, r1.tab⟩
    · by_cases hk : k ∈ ks
      · obtain ⟨i, hi⟩ := List.mem_iff_getElem?.mp hk
        rw [putAll_in nd hl2 (fun k hk => by obtain ⟨c, hc⟩ := hv k hk; rw [← r.len]; exact (List.getElem?_eq_some_iff.mp hc).1) hi] at e2
        exact r1.obj i a xs (by rw [List.getElem?_map, hi]; show some (adr μ k) = some a; rw [adr_of e1]) e2
      · rw [putAll_out hk] at e2
        obtain ⟨ws, h1, h2⟩ := r.obj k a xs e1 e2
        have na : a ∉ ks.map (adr μ) := fun z => by
          obtain ⟨j, hj, e⟩ := List.mem_map.mp z
          obtain ⟨c, hc⟩ := hv j hj
          rw [adr_of hc] at e
          subst e
          obtain ⟨l1, q1⟩ := List.getElem?_eq_some_iff.mp e1
          obtain ⟨l2, q2⟩ := List.getElem?_eq_some_iff.mp hc
          have := (List.getElem_inj r.nd).mp (q1.trans q2.symm)
          subst this
          exact hk hj
        exact ⟨ws, x.keep a _ h1 (fun _ z => by cases z) na, h2.mono x.fs⟩
    · rw [x.fn a (r.live ha)]; exact r.dis a ha
  cases q : m (renum bs 0) os with
  | ok b os' =>
    rw [q] at hm
    have hm : okE K xc μ W F H σ (match b.give with | some b => .ok b (putAll S ks os') | none => .bad) Q := hm
    intro F' H' v x r1 bv fr
    cases b with
    | t d => exact hm F' H' v (ext x) (rel x r1) bv fr
    | own d =>
      obtain ⟨a, xs, ds, e1, e2, e3, e4, e5, e6⟩ := bv
      exact hm F' H' v (ext x) (rel x r1) ⟨a, xs, ds, e1, e2, e3, e4, e5, (r.out (fr a e1)).2⟩ fr
    | bor d => exact hm.elim
    | sc d => exact hm.elim
    | r k => exact hm.elim
  | ex c p os' =>
    rw [q] at hm
    exact fun F' H' cls d x r1 xr => hm F' H' cls d (ext x) (rel x r1) xr
  | bad =>
    rw [q] at hm
    exact hm.elim
/-- f(..), f a def of the text -/
theorem pe_callM {k : Nat} {f : Addr} {m : List B → Store → R B} {ma : Env → Store → R (List B)} {x : Str} {p pos : Pos} {e : Expr} {es : List Expr} (Fc : FnC X.prog X.w X.K X.mg X.base xc k f m) (hr : Room k X.A) (hgd : X.A.guards = some []) (tk : Takes X W)
    (hg : L2.Gl X x) (hmg : X.mg x = some (.ref f)) (hk : PySem.W.keepIn X.K (.ref f) = true) (ha : PA X (e :: es) (tML X.K xc W ma)) (hdb : (x == ("__debug__" : Str)) = false)
    (he : starEach (e :: es) X.env = (false, eval e X.env) :: starEach es X.env) (hpl : (backTo pos (starEach es X.env)).any (·.1) = false) :
    PE X (.Call (.Name x p) (e :: es) [] pos) (tM X.K xc W fun ρ s => (ma ρ s).bind fun bs s => callS m bs s) := by
  refine ⟨fun pins s σ H Q I h => ?_⟩
  obtain ⟨F, μ, S, ρ, rel, er, h⟩ := h
  have run : ∀ {us : List Value} {vs : List V} {s1 : Shared} {H1 : Hp}, Inv X pins σ H1 s1 → Vals vs us → (∃ F1 μ S1 bs, Rel X.K F1 μ S1 H1 ∧ BRs X.K F1 μ H1 vs bs ∧ okE X.K xc μ W F1 H1 σ (callS m bs S1) Q) →
      wpAny (model X.prog X.w) X.A (call (.ref f) us) (EP X pins σ Q) X.xe s1 := by
    rintro us vs s1 H1 I1 rv ⟨F1, μ1, S1, bs, r1, b1, h1⟩
    obtain ⟨μ', os, r2, b2, h2⟩ := callS_ok h1 r1 b1
    refine wpAny_call (codeAny_mono (Fc.run X.A X.stack s1 H1 us vs F1 μ' os _ Q _ hr hgd I1.env0 rv r2 b2 h2) fun r s' hq => ?_)
    cases r with
    | error e => exact tk e s' (XE.of_call I1 (fun cls d H' h => h) hq)
    | ok fl =>
      cases fl with
      | ret u => exact I1.after hq
      | next => exact False.elim hq
      | brk => exact False.elim hq
      | cont => exact False.elim hq
  have har : tML X.K xc W ma σ H (fun vs H1 => ∃ F1 μ S1 bs, Rel X.K F1 μ S1 H1 ∧ BRs X.K F1 μ H1 vs bs ∧ okE X.K xc μ W F1 H1 σ (callS m bs S1) Q) :=
    ⟨F, μ, S, ρ, rel, er, okL_bind h fun F1 H1 vs bs S1 e1 r1 b1 h1 => ⟨F1, μ, S1, bs, r1, b1, h1⟩⟩
  refine wpAny_Call_Name_kw (ld_glob I hg hmg ?_ hdb)
  refine PySem.W.callWith_K (h₀ := X.base) I.ok.mod.kin hk (thn (ha.run pos pins s σ H _ I har) fun us s1 ⟨vs, H1, I1, r, q⟩ => ⟨I1.kIn, ?_⟩) he hpl
  exact run I1 r q
/-- f() -/
theorem pe_callM0 {k : Nat} {f : Addr} {m : List B → Store → R B} {x : Str} {p pos : Pos} (Fc : FnC X.prog X.w X.K X.mg X.base xc k f m) (hr : Room k X.A) (hgd : X.A.guards = some []) (tk : Takes X W)
    (hg : L2.Gl X x) (hmg : X.mg x = some (.ref f)) (hk : PySem.W.keepIn X.K (.ref f) = true) (hdb : (x == ("__debug__" : Str)) = false) :
    PE X (.Call (.Name x p) [] [] pos) (tM X.K xc W fun ρ s => callS m [] s) := by
  refine ⟨fun pins s σ H Q I h => ?_⟩
  obtain ⟨F, μ, S, ρ, rel, er, h⟩ := h
  refine wpAny_Call_Name_kw (ld_glob I hg hmg ?_ hdb)
  refine PySem.W.callWith_K0 I.kIn hk ?_
  obtain ⟨μ', os, r2, b2, h2⟩ := callS_ok h rel .nil
  refine wpAny_call (codeAny_mono (Fc.run X.A X.stack s H [] [] F μ' os _ Q _ hr hgd I.env0 .nil r2 b2 h2) fun r s' hq => ?_)
  cases r with
  | error e => exact tk e s' (XE.of_call I (fun cls d H' h => h) hq)
  | ok fl =>
    cases fl with
    | ret u => exact I.after hq
    | next => exact False.elim hq
    | brk => exact False.elim hq
    | cont => exact False.elim hq
end
end Zw
set_option Elab.async false
set_option linter.all false
set_option maxRecDepth 100000
/-! Zw4: expressions of the text against the core, one rule each. -/
namespace Zw
open PySem PySem.Spec PyProof.Rows L2
theorem R.bind_assoc {α β γ : Type} (r : R α) (f : α → Store → R β) (g : β → Store → R γ) : (r.bind f).bind g = r.bind fun a s => (f a s).bind g := by
  cases r <;> rfl
section
variable {X : Cx} {K : PySem.W.Frag} {xc : Nat → Option XCls} {W : WX} {F : Hp} {μ : List Addr} {S : Store} {H : Hp} {σ : L2.St} {ρ : Env} {G : Gx}
/-! ### names, constants -/
theorem r_var {i : Nat} {x : Str} {pos : Pos} (h : PE X (.Name x pos) (tVar i)) : PE X (.Name x pos) (tM X.K xc W (ev G (.var i))) := by
  refine PE.weak h fun σ H Q q => ?_
  obtain ⟨F, μ, S, ρ, rel, er, q⟩ := q
  have q : okE X.K xc μ W F H σ (.of (readV ρ[i]?) S) Q := by simpa [ev] using q
  cases e : ρ[i]? with
  | none => rw [e] at q; exact q.elim
  | some o => cases o with
    | none => rw [e] at q; exact q.elim
    | some b =>
      rw [e] at q
      obtain ⟨v, h1, h2⟩ := er.val i b e
      refine ⟨v, h1, ?_⟩
      cases b with
      | own d => exact okE_val (b := .bor d) q rel h2 trivial
      | t d => exact okE_val q rel h2 trivial
      | bor d => exact okE_val q rel h2 trivial
      | sc d => exact okE_val q rel h2 trivial
      | r k => exact okE_val q rel h2 trivial
theorem r_val {e : Expr} {v : V} {d : D} (h : PE X e (tC v)) (r : ∀ F, Rp X.K F v d) {m : Env → Store → R B} (hm : ∀ ρ s, m ρ s = .ok (.t d) s) : PE X e (tM X.K xc W m) := by
  refine PE.weak h fun σ H Q q => ?_
  obtain ⟨F, μ, S, ρ, rel, er, q⟩ := q
  rw [hm] at q
  exact okE_val q rel (r F) trivial
/-- a constant of the text -/
def constD : Const → Option D
  | .none => some .non
  | .bool b => some (.bl b)
  | .int i => some (.int i)
  | .str s => some (.str s)
  | _ => none
theorem r_cst {k : Const} {d : D} {j} {pos : Pos} (h : constD k = some d) : PE X (.Constant k j pos) (tM X.K xc W (ev G (.cst d))) := by
  have hm : ∀ ρ s, ev G (.cst d) ρ s = .ok (.t d) s := fun ρ s => by simp [ev]
  unfold constD at h
  split at h
  · cases h; exact r_val pe_non (fun _ => .non) hm
  · cases h; exact r_val pe_bl (fun _ => .bl _) hm
  · cases h; exact r_val pe_int (fun _ => .int _) hm
  · cases h; exact r_val pe_str (fun _ => .str _) hm
  · cases h
/-! ### operators -/
theorem r_bin {a b : Expr} {ca cb : CE} {op : Op2} {o : Operator} {r : R2} {pos : Pos} (ho : OpR X (binaryOp o) r) (ha : PE X a (tM X.K xc W (ev G ca))) (hb : PE X b (tM X.K xc W (ev G cb)))
    (hop : ∀ σ F μ S H x y bx bY (Q : VK), Rel X.K F μ S H → BRp X.K F μ H x bx → BRp X.K F μ H y bY → okE X.K xc μ W F H σ (g2 op bx bY S) Q → r x y H Q) :
    PE X (.BinOp a o b pos) (tM X.K xc W (ev G (.bin op ca cb))) :=
  PE.weak (pe_op ho ha hb) fun σ H Q q => bin_rd (g := g2 op) (hop σ) (by
    have e : ev G (.bin op ca cb) = fun ρ s => (ev G ca ρ s).bind fun x s => (ev G cb ρ s).bind fun y s => g2 op x y s := by funext ρ s; simp [ev, g2]
    rw [e] at q; exact q)
/-- which operator of the text an operator of the core is -/
def opOf : Op2 → Operator
  | .add => .Add
  | .sub => .Sub
  | .mul => .Mult
  | .mod => .Mod
  | .fdiv => .FloorDiv
  | .pow => .Pow
theorem r_binAll {a b : Expr} {ca cb : CE} {op : Op2} {pos : Pos} (ha : PE X a (tM X.K xc W (ev G ca))) (hb : PE X b (tM X.K xc W (ev G cb))) : PE X (.BinOp a (opOf op) b pos) (tM X.K xc W (ev G (.bin op ca cb))) := by
  cases op with
  | add => exact r_bin op_addA ha hb fun σ F μ S H x y bx bY Q r hx hy h => hop_add r hx hy h
  | sub => exact r_bin op_sub ha hb fun σ F μ S H x y bx bY Q r hx hy h => hop_sub r hx hy h
  | mul => exact r_bin op_mulA ha hb fun σ F μ S H x y bx bY Q r hx hy h => hop_mul r hx hy h
  | mod => exact r_bin op_mod ha hb fun σ F μ S H x y bx bY Q r hx hy h => hop_mod r hx hy h
  | fdiv => exact r_bin op_fdivW ha hb fun σ F μ S H x y bx bY Q r hx hy h => hop_fdiv r hx hy h
  | pow => exact r_bin op_powX ha hb fun σ F μ S H x y bx bY Q r hx hy h => hop_pow r hx hy h
def cmOf : Cm → CmpOp
  | .eq => .Eq
  | .ne => .NotEq
  | .lt => .Lt
  | .le => .LtE
  | .gt => .Gt
  | .ge => .GtE
  | .isN => .Is
  | .notN => .IsNot
  | .in_ => .In
  | .notIn => .NotIn
/-- a comparison's rule by values -/
structure CmR (X : Cx) (xc : Nat → Option XCls) (W : WX) (op : Cm) (r : R2) : Prop where
  rule : OpR X (compareOp (cmOf op)) r
  hop : ∀ σ F μ S H x y bx bY (Q : VK), Rel X.K F μ S H → BRp X.K F μ H x bx → BRp X.K F μ H y bY → okE X.K xc μ W F H σ (c2 op bx bY S) Q → r x y H Q
theorem cmR {k : Nat} (hr : Room k X.A) (op : Cm) : ∃ r, CmR X xc W op r := by
  have hu := hr.un
  cases op with
  | eq => exact ⟨_, (op_eqD (by omega)).or op_eq, fun σ F μ S H x y bx bY Q r hx hy h => hop_eq r hx hy h⟩
  | ne => exact ⟨_, (op_neD (by omega)).or op_ne, fun σ F μ S H x y bx bY Q r hx hy h => hop_ne r hx hy h⟩
  | lt => exact ⟨_, op_ltA (by omega), fun σ F μ S H x y bx bY Q r hx hy h => hop_lt r hx hy h⟩
  | le => exact ⟨_, op_le, fun σ F μ S H x y bx bY Q r hx hy h => hop_cmI rfl r hx hy h⟩
  | gt => exact ⟨_, op_gt, fun σ F μ S H x y bx bY Q r hx hy h => hop_cmI rfl r hx hy h⟩
  | ge => exact ⟨_, op_ge, fun σ F μ S H x y bx bY Q r hx hy h => hop_cmI rfl r hx hy h⟩
  | isN => exact ⟨_, op_isN, fun σ F μ S H x y bx bY Q r hx hy h => hop_isN r hx hy h⟩
  | notN => exact ⟨_, op_notN, fun σ F μ S H x y bx bY Q r hx hy h => hop_notN r hx hy h⟩
  | in_ => exact ⟨_, op_in_seq, fun σ F μ S H x y bx bY Q r hx hy h => hop_in (k := true) rfl r hx hy h⟩
  | notIn => exact ⟨_, op_notIn_seq, fun σ F μ S H x y bx bY Q r hx hy h => hop_in (k := false) rfl r hx hy h⟩
theorem ev_cmp {op : Cm} {ca cb : CE} : ev G (.cmp op ca cb) = fun ρ s => (ev G ca ρ s).bind fun x s => (ev G cb ρ s).bind fun y s => c2 op x y s := by
  funext ρ s; simp [ev, c2]
theorem r_cmp {k : Nat} {a b : Expr} {ca cb : CE} {op : Cm} {pos : Pos} (hr : Room k X.A) (ha : PE X a (tM X.K xc W (ev G ca))) (hb : PE X b (tM X.K xc W (ev G cb))) (hm : behindInMarks (cmOf op) b = false) :
    PE X (.Compare a [cmOf op] [b] pos) (tM X.K xc W (ev G (.cmp op ca cb))) := by
  obtain ⟨r, c⟩ := cmR (X := X) (xc := xc) (W := W) hr op
  exact PE.weak (pe_cmpR c.rule ha hb hm) fun σ H Q q => bin_rd (g := c2 op) (c.hop σ) (by rw [ev_cmp] at q; exact q)
/-! ### tests -/
/-- a test's reading by the truth of a value -/
theorem tru_rd {m : Env → Store → R B} {Q : Bool → Hp → Prop} (h : tMT K xc W (fun ρ s => (m ρ s).bind fun x s => .of (truB x s) s) σ H Q) : tM K xc W m σ H (fun v H1 => ∃ k, TruV K v H1 k ∧ Q k H1) := by
  obtain ⟨F, μ, S, ρ, rel, er, h⟩ := h
  refine ⟨F, μ, S, ρ, rel, er, okE_bindT h fun F1 H1 v b S1 e1 r1 b1 f1 h1 => ?_⟩
  cases q : truB b S1 with
  | none => rw [q] at h1; exact h1.elim
  | some k => rw [q] at h1; exact ⟨k, tru_of r1 b1 q, h1 F1 H1 (Ext.refl _ _ _) r1⟩
/-- a value that is a bool whatever -/
def IsBl (m : Env → Store → R B) : Prop := ∀ ρ s b s', m ρ s = .ok b s' → ∃ k, b = .t (.bl k)
theorem tru_rdB {m : Env → Store → R B} (hb : IsBl m) {Q : Bool → Hp → Prop} (h : tMT K xc W (fun ρ s => (m ρ s).bind fun x s => .of (truB x s) s) σ H Q) : tM K xc W m σ H (fun v H1 => ∃ k, v = .bl k ∧ Q k H1) := by
  obtain ⟨F, μ, S, ρ, rel, er, h⟩ := h
  refine ⟨F, μ, S, ρ, rel, er, ?_⟩
  have hb2 := hb ρ S
  cases q : m ρ S with
  | ok b S1 =>
    simp only [q, R.bind] at h
    obtain ⟨k, rfl⟩ := hb2 b S1 q
    exact fun F' H' v x r bv _ => ⟨k, rp_bl bv, h F' H' x r⟩
  | ex c p S1 => simp only [q, R.bind] at h; exact h
  | bad => simp only [q, R.bind] at h; exact h
theorem isBl_cmp {op : Cm} {ca cb : CE} : IsBl (ev G (.cmp op ca cb)) := by
  intro ρ s b s' h
  rw [ev_cmp] at h
  dsimp only at h
  cases q : ev G ca ρ s with
  | ok x s1 =>
    rw [q] at h
    simp only [R.bind] at h
    cases q2 : ev G cb ρ s1 with
    | ok y s2 =>
      rw [q2] at h
      simp only [c2] at h
      cases q3 : (x.peek s2).bind fun x => (y.peek s2).bind fun y => (cmp2 op x y).map fun b => B.t (.bl b) with
      | none => rw [q3] at h; cases h
      | some z =>
        rw [q3] at h
        cases h
        cases e1 : x.peek s' with
        | none => rw [e1] at q3; cases q3
        | some d1 =>
          rw [e1] at q3
          cases e2 : y.peek s' with
          | none => rw [e2] at q3; cases q3
          | some d2 =>
            rw [e2] at q3
            obtain ⟨k, _, e⟩ := Option.map_eq_some_iff.mp (show (cmp2 op d1 d2).map (fun b => B.t (.bl b)) = some _ from q3)
            exact ⟨k, e.symm⟩
    | ex c p s2 => rw [q2] at h; cases h
    | bad => rw [q2] at h; cases h
  | ex c p s1 => rw [q] at h; cases h
  | bad => rw [q] at h; cases h
theorem t_cmp {k : Nat} {a b : Expr} {ca cb : CE} {op : Cm} {pos : Pos} (hr : Room k X.A) (ha : PE X a (tM X.K xc W (ev G ca))) (hb : PE X b (tM X.K xc W (ev G cb))) (hm : behindInMarks (cmOf op) b = false) :
    PT X (.Compare a [cmOf op] [b] pos) (tMT X.K xc W (evT G (.cmp op ca cb))) := by
  obtain ⟨r, c⟩ := cmR (X := X) (xc := xc) (W := W) hr op
  refine PT.weak (pt_cmpR c.rule ha hb hm) fun σ H Q q => ?_
  have q2 := tru_rdB (m := ev G (.cmp op ca cb)) isBl_cmp q
  rw [ev_cmp] at q2
  exact bin_rd (g := c2 op) (c.hop σ) q2
theorem t_val {a : Expr} {ca : CE} (ha : PE X a (tM X.K xc W (ev G ca))) (he : ∀ whole, isTrue a X.env whole = (do let v ← whole; standAt a.pos; holding [v] (truthy v))) : PT X a (tMT X.K xc W (evT G ca)) :=
  PT.weak (pt_truth ha he) fun σ H Q q => tru_rd q
theorem evT_not {ca : CE} {ρ : Env} {s : Store} : evT G (.notv ca) ρ s = (evT G ca ρ s).bind fun k s => .ok (!k) s := by
  unfold evT
  rw [show ev G (.notv ca) ρ s = (ev G ca ρ s).bind fun x s => .of ((truB x s).map fun b => .t (.bl (!b))) s from rfl]
  cases ev G ca ρ s with
  | ok x s1 =>
    simp only [R.bind]
    cases truB x s1 <;> rfl
  | ex c p s1 => rfl
  | bad => rfl
theorem okT_bindT {r : R Bool} {g : Bool → Store → R Bool} {Q R' : Bool → Hp → Prop} (h : okT K xc μ W F H σ (r.bind g) Q)
    (k : ∀ F1 H1 b S1, Ext μ F H F1 H1 → Rel K F1 μ S1 H1 → okT K xc μ W F1 H1 σ (g b S1) Q → R' b H1) : okT K xc μ W F H σ r R' := by
  cases r with
  | ok b S1 =>
    refine fun F1 H1 x r1 => k F1 H1 b S1 x r1 ?_
    have h2 : okT K xc μ W F H σ (g b S1) Q := h
    cases q : g b S1 with
    | ok ds S2 => rw [q] at h2; exact fun F' H' e r => h2 F' H' (x.trans e) r
    | ex c p S2 => rw [q] at h2; exact fun F' H' cls d e r q => h2 F' H' cls d (x.trans e) r q
    | bad => rw [q] at h2; exact h2
  | ex c p S1 => exact h
  | bad => exact h
theorem okT_val {S : Store} {k : Bool} {Q : Bool → Hp → Prop} (h : okT K xc μ W F H σ (.ok k S) Q) (r : Rel K F μ S H) : Q k H := h F H (Ext.refl _ _ _) r
theorem t_not {a : Expr} {ca : CE} {pos : Pos} (ha : PT X a (tMT X.K xc W (evT G ca))) : PT X (.UnaryOp .Not a pos) (tMT X.K xc W (evT G (.notv ca))) := by
  refine PT.weak (pt_not ha) fun σ H Q q => ?_
  obtain ⟨F, μ, S, ρ, rel, er, h⟩ := q
  rw [evT_not] at h
  exact ⟨F, μ, S, ρ, rel, er, okT_bindT h fun F1 H1 b S1 e1 r1 h1 => okT_val h1 r1⟩
theorem evT_and {c c' : CE} {cs : List CE} {ρ : Env} {s : Store} : evT G (.andv (c :: c' :: cs)) ρ s = (evT G c ρ s).bind fun k s => if k then evT G (.andv (c' :: cs)) ρ s else .ok false s := by
  unfold evT
  rw [show ev G (.andv (c :: c' :: cs)) ρ s = (ev G c ρ s).bind fun x s => match truB x s with
      | some true => evAnd G (c' :: cs) ρ s
      | some false => .ok x s
      | none => .bad from rfl]
  cases ev G c ρ s with
  | ok x s1 =>
    simp only [R.bind]
    cases q : truB x s1 with
    | none => rfl
    | some k => cases k with
      | true => simp [R.of, ev]
      | false => simp [R.of, R.bind, q]
  | ex c p s1 => rfl
  | bad => rfl
theorem evT_or {c c' : CE} {cs : List CE} {ρ : Env} {s : Store} : evT G (.orv (c :: c' :: cs)) ρ s = (evT G c ρ s).bind fun k s => if k then .ok true s else evT G (.orv (c' :: cs)) ρ s := by
  unfold evT
  rw [show ev G (.orv (c :: c' :: cs)) ρ s = (ev G c ρ s).bind fun x s => match truB x s with
      | some false => evOr G (c' :: cs) ρ s
      | some true => .ok x s
      | none => .bad from rfl]
  cases ev G c ρ s with
  | ok x s1 =>
    simp only [R.bind]
    cases q : truB x s1 with
    | none => rfl
    | some k => cases k with
      | false => simp [R.of, ev]
      | true => simp [R.of, R.bind, q]
  | ex c p s1 => rfl
  | bad => rfl
theorem evT_and1 {c : CE} {ρ : Env} {s : Store} : evT G (.andv [c]) ρ s = evT G c ρ s := by unfold evT; simp [ev, evAnd]
theorem evT_or1 {c : CE} {ρ : Env} {s : Store} : evT G (.orv [c]) ρ s = evT G c ρ s := by unfold evT; simp [ev, evOr]
theorem t_and1 {a : Expr} {c : CE} {pos : Pos} (ha : PT X a (tMT X.K xc W (evT G c))) : PW X (.BoolOp .And [a] pos) (tMT X.K xc W (evT G (.andv [c]))) :=
  PW.weak (pw_and1 ha) fun σ H Q ⟨F, μ, S, ρ, rel, er, h⟩ => ⟨F, μ, S, ρ, rel, er, by rw [evT_and1] at h; exact h⟩
theorem t_or1 {a : Expr} {c : CE} {pos : Pos} (ha : PT X a (tMT X.K xc W (evT G c))) : PW X (.BoolOp .Or [a] pos) (tMT X.K xc W (evT G (.orv [c]))) :=
  PW.weak (pw_or1 ha) fun σ H Q ⟨F, μ, S, ρ, rel, er, h⟩ => ⟨F, μ, S, ρ, rel, er, by rw [evT_or1] at h; exact h⟩
theorem t_and {a b : Expr} {es : List Expr} {c c' : CE} {cs : List CE} {pos : Pos} (ha : PT X a (tMT X.K xc W (evT G c))) (hb : PW X (.BoolOp .And (b :: es) pos) (tMT X.K xc W (evT G (.andv (c' :: cs))))) :
    PW X (.BoolOp .And (a :: b :: es) pos) (tMT X.K xc W (evT G (.andv (c :: c' :: cs)))) := by
  refine PW.weak (pw_and ha hb) fun σ H Q ⟨F, μ, S, ρ, rel, er, h⟩ => ⟨F, μ, S, ρ, rel, er, ?_⟩
  rw [evT_and] at h
  refine okT_bindT h fun F1 H1 k S1 e1 r1 h1 => ?_
  cases k with
  | true => exact ⟨F1, μ, S1, ρ, r1, er.step e1, h1⟩
  | false => exact okT_val h1 r1
theorem t_or {a b : Expr} {es : List Expr} {c c' : CE} {cs : List CE} {pos : Pos} (ha : PT X a (tMT X.K xc W (evT G c))) (hb : PW X (.BoolOp .Or (b :: es) pos) (tMT X.K xc W (evT G (.orv (c' :: cs))))) :
    PW X (.BoolOp .Or (a :: b :: es) pos) (tMT X.K xc W (evT G (.orv (c :: c' :: cs)))) := by
  refine PW.weak (pw_or ha hb) fun σ H Q ⟨F, μ, S, ρ, rel, er, h⟩ => ⟨F, μ, S, ρ, rel, er, ?_⟩
  rw [evT_or] at h
  refine okT_bindT h fun F1 H1 k S1 e1 r1 h1 => ?_
  cases k with
  | false => exact ⟨F1, μ, S1, ρ, r1, er.step e1, h1⟩
  | true => exact okT_val h1 r1
/-! ### not, and, or as values; a if t else b; a < b < c -/
theorem r_neg {a : Expr} {ca : CE} {pos : Pos} (ha : PE X a (tM X.K xc W (ev G ca))) : PE X (.UnaryOp .USub a pos) (tM X.K xc W (ev G (.neg ca))) := by
  refine PE.weak (pe_un un_neg ha) fun σ H Q ⟨F, μ, S, ρ, rel, er, h⟩ => ⟨F, μ, S, ρ, rel, er, ?_⟩
  rw [show ev G (.neg ca) ρ S = (ev G ca ρ S).bind fun x s => match x with
      | .t (.int i) => .ok (.t (.int (-i))) s
      | _ => .bad from rfl] at h
  refine okE_bind h fun F1 H1 v b S1 e1 r1 b1 f1 h1 => ?_
  split at h1
  · rename_i i
    exact ⟨i, rp_int b1, okE_val h1 r1 (.int _) trivial⟩
  · exact h1.elim
theorem r_not {a : Expr} {ca : CE} {pos : Pos} (ha : PE X a (tM X.K xc W (ev G ca))) : PE X (.UnaryOp .Not a pos) (tM X.K xc W (ev G (.notv ca))) := by
  refine PE.weak (pe_notT ha) fun σ H Q ⟨F, μ, S, ρ, rel, er, h⟩ => ⟨F, μ, S, ρ, rel, er, ?_⟩
  rw [show ev G (.notv ca) ρ S = (ev G ca ρ S).bind fun x s => .of ((truB x s).map fun b => .t (.bl (!b))) s from rfl] at h
  refine okE_bind h fun F1 H1 v b S1 e1 r1 b1 f1 h1 => ?_
  cases q : truB b S1 with
  | none => rw [q] at h1; exact h1.elim
  | some k => rw [q] at h1; exact ⟨k, tru_of r1 b1 q, okE_val h1 r1 (.bl _) trivial⟩
theorem r_and1 {op : BoolOp} {a : Expr} {c : CE} {pos : Pos} (ha : PE X a (tM X.K xc W (ev G c))) : PE X (.BoolOp op [a] pos) (tM X.K xc W (ev G c)) := pe_one ha
theorem r_and {a b : Expr} {es : List Expr} {c c' : CE} {cs : List CE} {pos : Pos} (ha : PE X a (tM X.K xc W (ev G c))) (hb : PE X (.BoolOp .And (b :: es) pos) (tM X.K xc W (ev G (.andv (c' :: cs))))) :
    PE X (.BoolOp .And (a :: b :: es) pos) (tM X.K xc W (ev G (.andv (c :: c' :: cs)))) := by
  refine PE.weak (pe_andT ha hb) fun σ H Q ⟨F, μ, S, ρ, rel, er, h⟩ => ⟨F, μ, S, ρ, rel, er, ?_⟩
  rw [show ev G (.andv (c :: c' :: cs)) ρ S = (ev G c ρ S).bind fun x s => match truB x s with
      | some true => ev G (.andv (c' :: cs)) ρ s
      | some false => .ok x s
      | none => .bad from rfl] at h
  refine okE_bind0 h fun F1 H1 v b S1 e1 r1 b1 f1 h1 => ?_
  cases q : truB b S1 with
  | none => rw [q] at h1; exact h1.elim
  | some k =>
    rw [q] at h1
    cases k with
    | true => exact ⟨true, tru_of r1 b1 q, ⟨F1, μ, S1, ρ, r1, er.step e1, okE.step e1 h1⟩⟩
    | false => exact ⟨false, tru_of r1 b1 q, h1 F1 H1 v e1 r1 b1 f1⟩
theorem r_or {a b : Expr} {es : List Expr} {c c' : CE} {cs : List CE} {pos : Pos} (ha : PE X a (tM X.K xc W (ev G c))) (hb : PE X (.BoolOp .Or (b :: es) pos) (tM X.K xc W (ev G (.orv (c' :: cs))))) :
    PE X (.BoolOp .Or (a :: b :: es) pos) (tM X.K xc W (ev G (.orv (c :: c' :: cs)))) := by
  refine PE.weak (pe_orT ha hb) fun σ H Q ⟨F, μ, S, ρ, rel, er, h⟩ => ⟨F, μ, S, ρ, rel, er, ?_⟩
  rw [show ev G (.orv (c :: c' :: cs)) ρ S = (ev G c ρ S).bind fun x s => match truB x s with
      | some false => ev G (.orv (c' :: cs)) ρ s
      | some true => .ok x s
      | none => .bad from rfl] at h
  refine okE_bind0 h fun F1 H1 v b S1 e1 r1 b1 f1 h1 => ?_
  cases q : truB b S1 with
  | none => rw [q] at h1; exact h1.elim
  | some k =>
    rw [q] at h1
    cases k with
    | false => exact ⟨false, tru_of r1 b1 q, ⟨F1, μ, S1, ρ, r1, er.step e1, okE.step e1 h1⟩⟩
    | true => exact ⟨true, tru_of r1 b1 q, h1 F1 H1 v e1 r1 b1 f1⟩
theorem okT_bind0 {r : R Bool} {g : Bool → Store → R B} {Q : VK} {R' : Bool → Hp → Prop} (h : okE K xc μ W F H σ (r.bind g) Q)
    (k : ∀ F1 H1 b S1, Ext μ F H F1 H1 → Rel K F1 μ S1 H1 → okE K xc μ W F H σ (g b S1) Q → R' b H1) : okT K xc μ W F H σ r R' := by
  cases r with
  | ok b S1 => exact fun F1 H1 x r1 => k F1 H1 b S1 x r1 h
  | ex c p S1 => exact h
  | bad => exact h
theorem r_ife {c a b : Expr} {cc ca cb : CE} {pos : Pos} (hc : PT X c (tMT X.K xc W (evT G cc))) (ha : PE X a (tM X.K xc W (ev G ca))) (hb : PE X b (tM X.K xc W (ev G cb))) :
    PE X (.IfExp c a b pos) (tM X.K xc W (ev G (.ife cc ca cb))) := by
  refine PE.weak (pe_ifExp hc ha hb) fun σ H Q ⟨F, μ, S, ρ, rel, er, h⟩ => ⟨F, μ, S, ρ, rel, er, ?_⟩
  have e : ev G (.ife cc ca cb) ρ S = (evT G cc ρ S).bind fun k s => if k then ev G ca ρ s else ev G cb ρ s := by
    rw [show ev G (.ife cc ca cb) ρ S = (ev G cc ρ S).bind fun x s => match truB x s with
      | some true => ev G ca ρ s
      | some false => ev G cb ρ s
      | none => .bad from rfl]
    unfold evT
    cases ev G cc ρ S with
    | ok x s1 =>
      simp only [R.bind]
      cases truB x s1 with
      | none => rfl
      | some k => cases k <;> rfl
    | ex c p s1 => rfl
    | bad => rfl
  rw [e] at h
  refine okT_bind0 h fun F1 H1 k S1 e1 r1 h1 => ?_
  cases k with
  | true => exact ⟨F1, μ, S1, ρ, r1, er.step e1, okE.step e1 h1⟩
  | false => exact ⟨F1, μ, S1, ρ, r1, er.step e1, okE.step e1 h1⟩
/-- a < b < c: the readings -/
def c2o (op : Cm) (x y : B) (s : Store) : Option Bool := (x.peek s).bind fun x => (y.peek s).bind fun y => cmp2 op x y
theorem c2_eq {op : Cm} {x y : B} {s : Store} : c2 op x y s = .of ((c2o op x y s).map fun b => .t (.bl b)) s := by
  unfold c2 c2o
  cases x.peek s with
  | none => rfl
  | some d => cases y.peek s with
    | none => rfl
    | some e => rfl
theorem chain_rd {k : Nat} (hr : Room k X.A) {a b c : Expr} {ca cb cc : CE} {o1 o2 : Cm} {r1 r2 : R2} (C1 : CmR X xc W o1 r1) (C2 : CmR X xc W o2 r2) {Q : VK} (h : tM X.K xc W (ev G (.chain o1 o2 ca cb cc)) σ H Q) :
    tChain r1 r2 (tM X.K xc W (ev G ca)) (tM X.K xc W (ev G cb)) (tM X.K xc W (ev G cc)) σ H Q := by
  obtain ⟨F, μ, S, ρ, rel, er, h⟩ := h
  rw [show ev G (.chain o1 o2 ca cb cc) ρ S = (ev G ca ρ S).bind fun x s => (ev G cb ρ s).bind fun y s =>
      match c2o o1 x y s with
      | some true => (ev G cc ρ s).bind fun z s => c2 o2 y z s
      | some false => .ok (.t (.bl false)) s
      | none => .bad from rfl] at h
  refine ⟨F, μ, S, ρ, rel, er, okE_bind h fun F1 H1 x bx S1 e1 q1 b1 f1 h1 => ⟨F1, μ, S1, ρ, q1, er.step e1, okE_bind h1 fun F2 H2 y bY S2 e2 q2 b2 f2 h2 => ?_⟩⟩
  cases q : c2o o1 bx bY S2 with
  | none => rw [q] at h2; exact h2.elim
  | some v =>
    rw [q] at h2
    refine C1.hop σ F2 μ S2 H2 x y bx bY _ q2 (b1.step e2) b2 ?_
    rw [c2_eq, q]
    intro F3 H3 z e3 q3 bz _
    refine ⟨v, rp_bl bz, ?_⟩
    cases v with
    | true =>
      refine ⟨F3, μ, S2, ρ, q3, (er.step (e1.trans e2)).step e3, ?_⟩
      have h2 := okE.step e3 h2
      exact okE_bind h2 fun F4 H4 z' bz' S4 e4 q4 b4 f4 h4 => C2.hop σ F4 μ S4 H4 y z' bY bz' Q q4 ((b2.step e3).step e4) b4 h4
    | false => exact h2 F3 H3 _ e3 q3 (.bl false) trivial
theorem r_chain {k : Nat} (hr : Room k X.A) {a b c : Expr} {ca cb cc : CE} {o1 o2 : Cm} {pos : Pos} (ha : PE X a (tM X.K xc W (ev G ca))) (hb : PE X b (tM X.K xc W (ev G cb))) (hc : PE X c (tM X.K xc W (ev G cc)))
    (hm : lastMarks [cmOf o1, cmOf o2] [b, c] = false) (h1 : behindInMarks (cmOf o1) b = false) (h2 : behindInMarks (cmOf o2) c = false) :
    PE X (.Compare a [cmOf o1, cmOf o2] [b, c] pos) (tM X.K xc W (ev G (.chain o1 o2 ca cb cc))) := by
  obtain ⟨r1, C1⟩ := cmR (X := X) (xc := xc) (W := W) hr o1
  obtain ⟨r2, C2⟩ := cmR (X := X) (xc := xc) (W := W) hr o2
  exact PE.weak (pe_chain C1.rule C2.rule ha hb hc hm) fun σ H Q q => chain_rd hr (a := a) (b := b) (c := c) C1 C2 q
theorem c2_bl {op : Cm} {x y : B} {s s' : Store} {b : B} (h : c2 op x y s = .ok b s') : ∃ k, b = .t (.bl k) := by
  rw [c2_eq] at h
  cases q : c2o op x y s with
  | none => rw [q] at h; cases h
  | some v => rw [q] at h; cases h; exact ⟨v, rfl⟩
theorem bind_ok {α β : Type} {r : R α} {f : α → Store → R β} {b : β} {s : Store} (h : r.bind f = .ok b s) : ∃ a s1, r = .ok a s1 ∧ f a s1 = .ok b s := by
  cases r with
  | ok a s1 => exact ⟨a, s1, rfl, h⟩
  | ex c p s1 => cases h
  | bad => cases h
theorem isBl_chain {o1 o2 : Cm} {ca cb cc : CE} : IsBl (ev G (.chain o1 o2 ca cb cc)) := by
  intro ρ s b s' h
  rw [show ev G (.chain o1 o2 ca cb cc) ρ s = (ev G ca ρ s).bind fun x s => (ev G cb ρ s).bind fun y s =>
      match c2o o1 x y s with
      | some true => (ev G cc ρ s).bind fun z s => c2 o2 y z s
      | some false => .ok (.t (.bl false)) s
      | none => .bad from rfl] at h
  obtain ⟨x, s1, _, h⟩ := bind_ok h
  obtain ⟨y, s2, _, h⟩ := bind_ok h
  cases q : c2o o1 x y s2 with
  | none => rw [q] at h; cases h
  | some v =>
    rw [q] at h
    cases v with
    | true =>
      obtain ⟨z, s3, _, h⟩ := bind_ok (show (ev G cc ρ s2).bind _ = _ from h)
      exact c2_bl h
    | false => cases h; exact ⟨false, rfl⟩
theorem t_chain {k : Nat} (hr : Room k X.A) {a b c : Expr} {ca cb cc : CE} {o1 o2 : Cm} {pos : Pos} (ha : PE X a (tM X.K xc W (ev G ca))) (hb : PE X b (tM X.K xc W (ev G cb))) (hc : PE X c (tM X.K xc W (ev G cc)))
    (hm : lastMarks [cmOf o1, cmOf o2] [b, c] = false) : PT X (.Compare a [cmOf o1, cmOf o2] [b, c] pos) (tMT X.K xc W (evT G (.chain o1 o2 ca cb cc))) := by
  obtain ⟨r1, C1⟩ := cmR (X := X) (xc := xc) (W := W) hr o1
  obtain ⟨r2, C2⟩ := cmR (X := X) (xc := xc) (W := W) hr o2
  exact PT.weak (pt_chain C1.rule C2.rule ha hb hc hm) fun σ H Q q => chain_rd hr (a := a) (b := b) (c := c) C1 C2 (tru_rdB isBl_chain q)
/-! ### displays -/
theorem d_nil : PA X [] (tMD X.K xc W (evs G [])) := PA.weak pa_nil fun σ H Q ⟨F, μ, S, ρ, rel, er, h⟩ => h F H [] (Ext.refl _ _ _) rel .nil
theorem okD_step {F1 H1 : Hp} {r : R (List D)} {Q : List V → Hp → Prop} (x : Ext μ F H F1 H1) (h : okD K xc μ W F H σ r Q) : okD K xc μ W F1 H1 σ r Q := by
  cases r with
  | ok b S' => exact fun F' H' v e r q => h F' H' v (x.trans e) r q
  | ex c p S' => exact fun F' H' cls d e r q => h F' H' cls d (x.trans e) r q
  | bad => exact h
theorem okD_map {r : R (List D)} {f : List D → List D} {Q R' : List V → Hp → Prop} (h : okD K xc μ W F H σ (r.bind fun xs s => .ok (f xs) s) Q)
    (k : ∀ F1 H1 vs ds S1, Ext μ F H F1 H1 → Rel K F1 μ S1 H1 → RpL K F1 vs ds → okD K xc μ W F1 H1 σ (.ok (f ds) S1) Q → R' vs H1) : okD K xc μ W F H σ r R' := by
  cases r with
  | ok b S1 => exact fun F1 H1 vs x r1 bv => k F1 H1 vs b S1 x r1 bv (okD_step x h)
  | ex c p S1 => exact h
  | bad => exact h
theorem d_cons {e : Expr} {es : List Expr} {c : CE} {cs : List (Bool × CE)} (he : PE X e (tM X.K xc W (ev G c))) (hes : PA X es (tMD X.K xc W (evs G cs))) (hs : starEach (e :: es) X.env = (false, eval e X.env) :: starEach es X.env) :
    PA X (e :: es) (tMD X.K xc W (evs G ((false, c) :: cs))) := by
  refine PA.weak (pa_cons he hes hs) fun σ H Q ⟨F, μ, S, ρ, rel, er, h⟩ => ⟨F, μ, S, ρ, rel, er, ?_⟩
  rw [show evs G ((false, c) :: cs) ρ S = (ev G c ρ S).bind fun x s => match x.frz with
        | some d => (evs G cs ρ s).bind fun xs s => .ok (d :: xs) s
        | none => .bad from rfl] at h
  have h2 : okD X.K xc μ W F H σ (((ev G c ρ S).bind fun x s => .ok x.still s).bind fun x s => match x with
        | .t d => (evs G cs ρ s).bind fun xs s => .ok (d :: xs) s
        | _ => .bad) Q := by
    rw [R.bind_assoc]
    cases q : ev G c ρ S with
    | ok x s1 =>
      rw [q] at h
      cases x with
      | t d => exact h
      | own d => exact h
      | bor d => exact h.elim
      | sc d => exact h.elim
      | r k => exact h.elim
    | ex c p s1 => rw [q] at h; exact h
    | bad => rw [q] at h; exact h
  have h3 : okE X.K xc μ W F H σ ((ev G c ρ S).bind fun x s => .ok x.still s) (fun x H1 => tMD X.K xc W (evs G cs) σ H1 fun xs H2 => Q (x :: xs) H2) := okE_bindD h2 fun F1 H1 v b S1 e1 r1 b1 f1 h1 => by
    cases b with
    | t d =>
      refine ⟨F1, μ, S1, ρ, r1, er.step e1, okD_map h1 fun F2 H2 vs ds S2 e2 r2 b2 h2 => ?_⟩
      exact h2 F2 H2 (v :: vs) (Ext.refl _ _ _) r2 (.cons (Rp.mono e2.fs b1) b2)
    | own d => exact h1.elim
    | bor d => exact h1.elim
    | sc d => exact h1.elim
    | r k => exact h1.elim
  exact okE_still h3
theorem d_star {e : Expr} {es : List Expr} {c : CE} {cs : List (Bool × CE)} {p : Pos} (he : PE X e (tM X.K xc W (ev G c))) (hes : PA X es (tMD X.K xc W (evs G cs))) :
    PA X (.Starred e p :: es) (tMD X.K xc W (evs G ((true, c) :: cs))) := by
  refine PA.weak (StX.pa_star he hes rfl) fun σ H Q ⟨F, μ, S, ρ, rel, er, h⟩ => ⟨F, μ, S, ρ, rel, er, ?_⟩
  rw [show evs G ((true, c) :: cs) ρ S = (ev G c ρ S).bind fun x s => match (x.look s).bind itemsD with
        | some ds => (evs G cs ρ s).bind fun xs s => .ok (ds ++ xs) s
        | none => .bad from rfl] at h
  refine okE_bindD h fun F1 H1 v b S1 e1 r1 b1 f1 h1 => ?_
  cases q : b.look S1 with
  | none => rw [q] at h1; exact h1.elim
  | some d =>
    rw [q] at h1
    have fin : ∀ {a : Addr} {xs : List V} {ds : List D}, v = .ref a → (SqT X.K H1 a xs ∨ SqL X.K H1 a xs) → RpL X.K F1 xs ds → okD X.K xc μ W F1 H1 σ ((evs G cs ρ S1).bind fun xs s => .ok (ds ++ xs) s) Q →
        ∃ p xs, v = V.ref p ∧ (SqT X.K H1 p xs ∨ SqL X.K H1 p xs) ∧ tMD X.K xc W (evs G cs) σ H1 fun ys H2 => Q (xs ++ ys) H2 := fun {a xs ds} ea hs rs h1 =>
      ⟨a, xs, ea, hs, F1, μ, S1, ρ, r1, er.step e1, okD_map h1 fun F2 H2 vs es' S2 e2 r2 b2 h2 => h2 F2 H2 (xs ++ vs) (Ext.refl _ _ _) r2 ((rs.mono e2.fs).append b2)⟩
    cases d with
    | tup ds =>
      obtain ⟨a, xs, ea, ha, ra⟩ := lk_tup r1 b1 q
      exact fin ea (.inl ha) ra h1
    | lst ds =>
      obtain ⟨a, xs, ea, ha, ra⟩ := lk_lst r1 b1 q
      exact fin ea (.inr ha) ra h1
    | non => exact h1.elim
    | dic => exact h1.elim
    | bl _ => exact h1.elim
    | int _ => exact h1.elim
    | str _ => exact h1.elim
    | ins _ _ => exact h1.elim
theorem r_tup {es : List Expr} {cs : List (Bool × CE)} {x1} {pos : Pos} (h : PA X es (tMD X.K xc W (evs G cs))) : PE X (.Tuple es x1 pos) (tM X.K xc W (ev G (.tup cs))) := by
  refine PE.weak (pe_tup h) fun σ H Q ⟨F, μ, S, ρ, rel, er, h⟩ => ⟨F, μ, S, ρ, rel, er, ?_⟩
  rw [show ev G (.tup cs) ρ S = (evs G cs ρ S).bind fun xs s => if xs.length ≤ line then .ok (.t (.tup xs)) s else .bad from rfl] at h
  refine okD_bind h fun F1 H1 vs ds S1 e1 r1 b1 h1 => ?_
  split at h1
  · rename_i hl
    exact ⟨by rw [b1.length, ← line_eq]; exact hl, fun p hp => okE_tup h1 r1 b1 hp⟩
  · exact h1.elim
theorem r_lst {es : List Expr} {cs : List (Bool × CE)} {pos : Pos} (h : PA X es (tMD X.K xc W (evs G cs))) : PE X (.List es pos) (tM X.K xc W (ev G (.lst cs))) := by
  refine PE.weak (pe_lst h) fun σ H Q ⟨F, μ, S, ρ, rel, er, h⟩ => ⟨F, μ, S, ρ, rel, er, ?_⟩
  rw [show ev G (.lst cs) ρ S = (evs G cs ρ S).bind fun xs s => if xs.length ≤ line then .ok (.own (.lst xs)) s else .bad from rfl] at h
  refine okD_bind0 h fun F1 H1 vs ds S1 e1 r1 b1 h1 => ?_
  split at h1
  · rename_i hl
    refine ⟨by rw [b1.length, ← line_eq]; exact hl, fun p hp => ?_⟩
    refine h1 _ _ _ (e1.trans (Ext.newOwn hp nt_lst)) (r1.newOwn hp) ⟨p, vs, ds, rfl, rfl, upd_same, b1, (r1.out (.of hp)).1, (r1.out (.of hp)).2⟩ fun a e => ?_
    cases e
    exact e1.back (.of hp)
  · exact h1.elim
end
end Zw
set_option Elab.async false
set_option linter.all false
set_option maxRecDepth 100000
/-! Zw5: subscripts, calls, built-ins, comprehensions. -/
namespace Zw
open PySem PySem.Spec PyProof.Rows L2
section
variable {X : Cx} {K : PySem.W.Frag} {xc : Nat → Option XCls} {W : WX} {F : Hp} {μ : List Addr} {S : Store} {H : Hp} {σ : L2.St} {ρ : Env} {G : Gx}
/-! ### subscripts -/
theorem ixD_get {vs : List V} {ds : List D} {i : Int} {d : D} (h : RpL K F vs ds) (e : ixD ds i = some d) : ∃ v, atI vs i = some v ∧ Rp K F v d := by
  unfold ixD at e
  cases q : ixN ds.length i with
  | none => rw [q] at e; cases e
  | some j =>
    rw [q] at e
    obtain ⟨v, h1, h2⟩ := h.get (show ds[j]? = some d from e)
    refine ⟨v, ?_, h2⟩
    unfold atI
    rw [h.length]
    rw [show L2.ixN ds.length i = some j from q]
    exact h1
def gIx (x y : B) (s : Store) : R B := match x.look s, y with
      | some (.tup xs), .t (.int i) => .of ((ixD xs i).map .t) s
      | some (.lst xs), .t (.int i) => .of ((ixD xs i).map .t) s
      | _, _ => .bad
theorem hop_ix {x y : V} {bx bY : B} {Q : VK} (r : Rel K F μ S H) (hx : BRp K F μ H x bx) (hy : BRp K F μ H y bY) (h : okE K xc μ W F H σ (gIx bx bY S) Q) : rIxL K x y H Q ∨ rIxT K x y H Q := by
  unfold gIx at h
  split at h
  · rename_i xs i e1
    cases q : ixD xs i with
    | none => rw [q] at h; exact h.elim
    | some d =>
      rw [q] at h
      obtain ⟨a, vs, ea, ha, ra⟩ := lk_tup r hx e1
      obtain ⟨v, h1, h2⟩ := ixD_get ra q
      exact .inr ⟨a, vs, i, v, ea, rp_int hy, ha, h1, okE_val h r h2 trivial⟩
  · rename_i xs i e1
    cases q : ixD xs i with
    | none => rw [q] at h; exact h.elim
    | some d =>
      rw [q] at h
      obtain ⟨a, vs, ea, ha, ra⟩ := lk_lst r hx e1
      obtain ⟨v, h1, h2⟩ := ixD_get ra q
      exact .inl ⟨a, vs, i, v, ea, rp_int hy, ha, h1, okE_val h r h2 trivial⟩
  · exact h.elim
def notSlice : Expr → Bool
  | .Slice .. => false
  | _ => true
theorem plainIx {b : Expr} (h : notSlice b = true) : PlainIx b := by
  intro o i
  cases b <;> first | rfl | cases h
theorem r_ix {a b : Expr} {ca cb : CE} {pos : Pos} (ha : PE X a (tM X.K xc W (ev G ca))) (hb : PE X b (tM X.K xc W (ev G cb))) (hs : notSlice b = true) : PE X (.Subscript a b pos) (tM X.K xc W (ev G (.ix ca cb))) :=
  PE.weak (pe_ix (ix_list.or ix_tup) ha hb (plainIx hs)) fun σ H Q q => bin_rd (g := gIx) (fun F μ S H x y bx bY Q r hx hy h => hop_ix r hx hy h) q
/-- a slice's part -/
def okO (K : PySem.W.Frag) (xc : Nat → Option XCls) (μ : List Addr) (W : WX) (F H : Hp) (σ : L2.St) (r : R (Option Int)) (Q : Option Int → Hp → Prop) : Prop := match r with
  | .ok o S' => ∀ F' H', Ext μ F H F' H' → Rel K F' μ S' H' → Q o H'
  | .ex c p S' => ∀ F' H' cls d, Ext μ F H F' H' → Rel K F' μ S' H' → XR K xc F' H' c p cls d → W cls d σ H'
  | .bad => False
def tMO (K : PySem.W.Frag) (xc : Nat → Option XCls) (W : WX) (m : Env → Store → R (Option Int)) : TO := fun σ H Q =>
  ∃ F μ S ρ, Rel K F μ S H ∧ ER K F μ H ρ σ ∧ okO K xc μ W F H σ (m ρ S) Q
theorem PO.weak {e : Option Expr} {t t' : TO} (h : PO X e t) (w : ∀ σ H Q, t' σ H Q → t σ H Q) : PO X e t' := ⟨fun pins s σ H Q I q => h.run pins s σ H Q I (w σ H Q q)⟩
theorem o_none : PO X none (tMO X.K xc W (evO G none)) := PO.weak po_none fun σ H Q ⟨F, μ, S, ρ, rel, er, h⟩ => h F H (Ext.refl _ _ _) rel
theorem o_some {e : Expr} {c : CE} (he : PE X e (tM X.K xc W (ev G c))) : PO X (some e) (tMO X.K xc W (evO G (some c))) := by
  refine PO.weak (po_some he) fun σ H Q ⟨F, μ, S, ρ, rel, er, h⟩ => ⟨F, μ, S, ρ, rel, er, ?_⟩
  rw [show evO G (some c) ρ S = (ev G c ρ S).bind fun x s => match x with
      | .t (.int i) => .ok (some i) s
      | _ => .bad from rfl] at h
  cases q : ev G c ρ S with
  | ok b S1 =>
    rw [q] at h
    intro F1 H1 v e1 r1 bv _
    simp only [R.bind] at h
    split at h
    · exact ⟨_, rp_int bv, h F1 H1 e1 r1⟩
    · exact h.elim
  | ex c p S1 => rw [q] at h; exact h
  | bad => rw [q] at h; exact h
theorem okO_bind {r : R (Option Int)} {g : Option Int → Store → R B} {Q : VK} {R' : Option Int → Hp → Prop} (h : okE K xc μ W F H σ (r.bind g) Q)
    (k : ∀ F1 H1 b S1, Ext μ F H F1 H1 → Rel K F1 μ S1 H1 → okE K xc μ W F1 H1 σ (g b S1) Q → R' b H1) : okO K xc μ W F H σ r R' := by
  cases r with
  | ok b S1 => exact fun F1 H1 x r1 => k F1 H1 b S1 x r1 (okE.step x h)
  | ex c p S1 => exact h
  | bad => exact h
theorem cut_ok {vs : List V} {ds : List D} (h : RpL K F vs ds) (lo hi : Option Int) : RpL K F (cutV vs lo hi) (cut ds lo hi) := by
  unfold cutV cut
  rw [h.length]
  exact (h.drop _).take _
theorem sIx_le {n : Nat} {o : Option Int} : sIx n n o ≤ n := by
  cases o with
  | none => exact Nat.le_refl _
  | some v =>
    show (if v < 0 then (v + n).toNat else min v.toNat n) ≤ n
    split <;> omega
theorem hop_slice {x : V} {bx : B} {lo hi : Option Int} {Q : VK} (r : Rel K F μ S H) (hx : BRp K F μ H x bx) (h : okE K xc μ W F H σ (.of ((bx.look S).bind fun d => slice d lo hi) S) Q) : rSlL K x lo hi H Q ∨ rSlA K x lo hi H Q := by
  cases q : bx.look S with
  | none => rw [q] at h; exact h.elim
  | some d =>
    rw [q] at h
    cases d with
    | tup ds =>
      obtain ⟨a, vs, ea, ha, ra⟩ := lk_tup r hx q
      refine .inr ⟨a, vs, ea, ha, fun hw => ?_, fun _ p hp => okE_tup h r (cut_ok ra lo hi) hp⟩
      have e : cut ds lo hi = ds := by
        unfold cut
        rw [ra.length] at hw
        have w1 : sIx ds.length 0 lo = 0 := hw.1
        have w2 : sIx ds.length ds.length hi = ds.length := hw.2
        rw [w1, w2]
        simp
      have h' : okE K xc μ W F H σ (.ok (.t (.tup (cut ds lo hi))) S) Q := h
      rw [e] at h'
      rw [← ea]
      exact okE_val h' r (lk_t r hx q (fun _ z => by cases z)).2 trivial
    | lst ds =>
      obtain ⟨a, vs, ea, ha, ra⟩ := lk_lst r hx q
      exact .inl ⟨a, vs, ea, ha, fun p hp => okE_lst h r (cut_ok ra lo hi) hp⟩
    | non => exact h.elim
    | bl _ => exact h.elim
    | int _ => exact h.elim
    | str _ => exact h.elim
    | ins _ _ => exact h.elim
    | dic => exact h.elim
theorem r_sl {a : Expr} {lo hi : Option Expr} {ca : CE} {cl ch : Option CE} {pos p2 : Pos} (ha : PE X a (tM X.K xc W (ev G ca))) (hl : PO X lo (tMO X.K xc W (evO G cl))) (hh : PO X hi (tMO X.K xc W (evO G ch))) :
    PE X (.Subscript a (.Slice lo hi none p2) pos) (tM X.K xc W (ev G (.sl ca cl ch))) := by
  refine PE.weak (pe_slice (sl_list.or sl_tupA) ha hl hh) fun σ H Q ⟨F, μ, S, ρ, rel, er, h⟩ => ⟨F, μ, S, ρ, rel, er, ?_⟩
  rw [show ev G (.sl ca cl ch) ρ S = (ev G ca ρ S).bind fun x s => (evO G cl ρ s).bind fun lo s => (evO G ch ρ s).bind fun hi s =>
      .of ((x.look s).bind fun d => slice d lo hi) s from rfl] at h
  refine okE_bind h fun F1 H1 x bx S1 e1 r1 b1 f1 h1 => ⟨F1, μ, S1, ρ, r1, er.step e1, okO_bind h1 fun F2 H2 l S2 e2 r2 h2 => ⟨F2, μ, S2, ρ, r2, (er.step e1).step e2, okO_bind h2 fun F3 H3 u S3 e3 r3 h3 => ?_⟩⟩
  exact hop_slice r3 ((b1.step e2).step e3) h3
/-! ### arguments -/
def notStar : Expr → Bool
  | .Starred .. => false
  | _ => true
theorem starEach_plain {e : Expr} {es : List Expr} {env : PySem.Env} (h : notStar e = true) : starEach (e :: es) env = (false, eval e env) :: starEach es env := by
  cases e <;> first | rfl | cases h
theorem backTo_plain {es : List Expr} {env : PySem.Env} {pos : Pos} (h : es.all notStar = true) : (backTo pos (starEach es env)).any (·.1) = false := by
  induction es with
  | nil => rfl
  | cons e es ih =>
    rw [List.all_cons, Bool.and_eq_true] at h
    rw [starEach_plain h.1]
    show (false || (backTo pos (starEach es env)).any (·.1)) = false
    rw [ih h.2] <;> rfl
theorem l_nil : PA X [] (tML X.K xc W (evl G [])) := PA.weak pa_nil fun σ H Q ⟨F, μ, S, ρ, rel, er, h⟩ => h F H [] (Ext.refl _ _ _) rel .nil
theorem l_cons {e : Expr} {es : List Expr} {c : CE} {cs : List CE} (he : PE X e (tM X.K xc W (ev G c))) (hes : PA X es (tML X.K xc W (evl G cs))) (hs : notStar e = true) : PA X (e :: es) (tML X.K xc W (evl G (c :: cs))) := by
  refine PA.weak (pa_cons he hes (starEach_plain hs)) fun σ H Q ⟨F, μ, S, ρ, rel, er, h⟩ => ⟨F, μ, S, ρ, rel, er, ?_⟩
  have h2 : okL X.K xc μ W F H σ (((ev G c ρ S).bind fun x s => .ok x.still s).bind fun x s => (evl G cs ρ s).bind fun xs s => .ok (x :: xs) s) Q := by
    rw [R.bind_assoc]
    exact h
  have h3 : okE X.K xc μ W F H σ ((ev G c ρ S).bind fun x s => .ok x.still s) (fun x H1 => tML X.K xc W (evl G cs) σ H1 fun xs H2 => Q (x :: xs) H2) := okE_bindL h2 fun F1 H1 v b S1 e1 r1 b1 f1 h1 => by
    refine ⟨F1, μ, S1, ρ, r1, er.step e1, ?_⟩
    cases q : evl G cs ρ S1 with
    | ok bs S2 =>
      rw [q] at h1
      exact fun F2 H2 vs e2 r2 b2 => h1 F2 H2 (v :: vs) e2 r2 (.cons (b1.step e2) b2)
    | ex c p S2 => rw [q] at h1; exact h1
    | bad => rw [q] at h1; exact h1
  exact okE_still h3
/-! ### built-ins by name -/
theorem r_b1 {f : Bi} {c : CE} {e : Expr} {x : Str} {p pos : Pos} {r : RV1} (hc : PE X (.Call (.Name x p) [e] [] pos) (tCB r (tCons (tM X.K xc W (ev G c)) tNil)))
    (hop : ∀ σ F μ S H x bx (Q : VK), Rel X.K F μ S H → BRp X.K F μ H x bx → okE X.K xc μ W F H σ (h1 f bx S) Q → r [x] H Q) : PE X (.Call (.Name x p) [e] [] pos) (tM X.K xc W (ev G (.b1 f c))) :=
  PE.weak hc fun σ H Q ⟨F, μ, S, ρ, rel, er, h⟩ => ⟨F, μ, S, ρ, rel, er, okE_bind (g := h1 f) h fun F1 H1 v b S1 e1 r1 b1 f1 h1 => hop σ F1 μ S1 H1 v b Q r1 b1 h1⟩
theorem r_isi {ty : Ty} {n : String} {c : CE} {e : Expr} {p p2 pos : Pos} (hn : ty.name = some n) (he : PE X e (tM X.K xc W (ev G c))) (hg : L2.Gl X "isinstance") (hm : X.mg "isinstance" = none) (hT : PE X (.Name (Str.ofString n) p2) (tC (.ty n))) (hs : notStar e = true) :
    PE X (.Call (.Name "isinstance" p) [e, .Name (Str.ofString n) p2] [] pos) (tM X.K xc W (ev G (.b1 (.isi ty) c))) :=
  PE.weak (pe_callB call_isi hg hm boot_isinstance (pa_cons he (pa_cons hT pa_nil (starEach_plain rfl)) (starEach_plain hs)) (he := starEach_plain hs) (hpl := backTo_plain rfl))
    fun σ H Q ⟨F, μ, S, ρ, rel, er, h⟩ => ⟨F, μ, S, ρ, rel, er, okE_bind (g := h1 (.isi ty)) h fun F1 H1 v b S1 e1 r1 b1 f1 h1 => hop_isi hn r1 b1 h1⟩
theorem r_b2 {f : Bi} {c c' : CE} {e e' : Expr} {x : Str} {p pos : Pos} {r : RV1} (hc : PE X (.Call (.Name x p) [e, e'] [] pos) (tCB r (tCons (tM X.K xc W (ev G c)) (tCons (tM X.K xc W (ev G c')) tNil))))
    (hop : ∀ σ F μ S H x y bx bY (Q : VK), Rel X.K F μ S H → BRp X.K F μ H x bx → BRp X.K F μ H y bY → okE X.K xc μ W F H σ (h2 f bx bY S) Q → r [x, y] H Q) : PE X (.Call (.Name x p) [e, e'] [] pos) (tM X.K xc W (ev G (.b2 f c c'))) :=
  PE.weak hc fun σ H Q ⟨F, μ, S, ρ, rel, er, h⟩ => ⟨F, μ, S, ρ, rel, er, okE_bind (g := fun x s => (ev G c' ρ s).bind fun y s => h2 f x y s) h fun F1 H1 v b S1 e1 r1 b1 f1 h1 =>
    ⟨F1, μ, S1, ρ, r1, er.step e1, okE_bind (g := fun y s => h2 f b y s) h1 fun F2 H2 y bY S2 e2 r2 b2 f2 h2 => hop σ F2 μ S2 H2 v y b bY Q r2 (b1.step e2) b2 h2⟩⟩
/-! ### slots -/
theorem ER.set (er : ER K F μ H ρ σ) {i : Nat} {v : V} {d : D} (h : Rp K F v d) : ER K F μ H (ρ.set i (some (.t d))) (σ.set i (some v)) := by
  have hl := er.len
  have gs : ∀ (j : Nat) (b : B), (ρ.set i (some (.t d)))[j]? = some (some b) → (j = i ∧ b = .t d ∧ i < ρ.length) ∨ (j ≠ i ∧ ρ[j]? = some (some b)) := fun j b e => by
    by_cases q : j = i
    · subst q
      by_cases l : j < ρ.length
      · rw [List.getElem?_set_self l] at e
        cases e
        exact .inl ⟨rfl, rfl, l⟩
      · rw [List.getElem?_eq_none (by simpa using l)] at e; cases e
    · rw [List.getElem?_set_ne (Ne.symm q)] at e
      exact .inr ⟨q, e⟩
  refine ⟨by simpa using hl, fun j b e => ?_, fun j k d1 d2 a n e1 e2 e3 => ?_⟩
  · rcases gs j b e with ⟨q, e2, l⟩ | ⟨q, e2⟩
    · subst q e2
      exact ⟨v, List.getElem?_set_self (by omega), h⟩
    · obtain ⟨w, h1, h2⟩ := er.val j b e2
      exact ⟨w, by rw [List.getElem?_set_ne (Ne.symm q)]; exact h1, h2⟩
  · have g1 : j ≠ i ∧ ρ[j]? = some (some (.own d1)) := by
      rcases gs j _ e1 with ⟨_, e2, _⟩ | x
      · cases e2
      · exact x
    have g2 : k ≠ i ∧ (ρ[k]? = some (some (.own d2)) ∨ ρ[k]? = some (some (.bor d2))) := by
      rcases e2 with e2 | e2
      · rcases gs k _ e2 with ⟨_, e2, _⟩ | x
        · cases e2
        · exact ⟨x.1, .inl x.2⟩
      · rcases gs k _ e2 with ⟨_, e2, _⟩ | x
        · cases e2
        · exact ⟨x.1, .inr x.2⟩
    rw [List.getElem?_set_ne (Ne.symm g1.1)] at e3
    rw [List.getElem?_set_ne (Ne.symm g2.1)]
    exact er.sep j k d1 d2 a n g1.2 g2.2 e3
theorem ER.unset (er : ER K F μ H ρ σ) (i : Nat) : ER K F μ H (ρ.set i none) (σ.set i none) := by
  have gs : ∀ (j : Nat) (b : B), (ρ.set i none)[j]? = some (some b) → j ≠ i ∧ ρ[j]? = some (some b) := fun j b e => by
    by_cases q : j = i
    · subst q
      by_cases l : j < ρ.length
      · rw [List.getElem?_set_self l] at e; cases e
      · rw [List.getElem?_eq_none (by simpa using l)] at e; cases e
    · rw [List.getElem?_set_ne (Ne.symm q)] at e
      exact ⟨q, e⟩
  refine ⟨by simpa using er.len, fun j b e => ?_, fun j k d1 d2 a n e1 e2 e3 => ?_⟩
  · obtain ⟨q, e2⟩ := gs j b e
    obtain ⟨w, h1, h2⟩ := er.val j b e2
    exact ⟨w, by rw [List.getElem?_set_ne (Ne.symm q)]; exact h1, h2⟩
  · obtain ⟨q1, e1⟩ := gs j _ e1
    have g2 : k ≠ i ∧ (ρ[k]? = some (some (.own d2)) ∨ ρ[k]? = some (some (.bor d2))) := by
      rcases e2 with e2 | e2
      · exact ⟨(gs k _ e2).1, .inl (gs k _ e2).2⟩
      · exact ⟨(gs k _ e2).1, .inr (gs k _ e2).2⟩
    rw [List.getElem?_set_ne (Ne.symm q1)] at e3
    rw [List.getElem?_set_ne (Ne.symm g2.1)]
    exact er.sep j k d1 d2 a n e1 g2.2 e3
theorem ER.wipe (er : ER K F μ H ρ σ) : ∀ vs : List Nat, ER K F μ H (Zw.wipe ρ vs) (L2.wipe σ vs)
  | [] => er
  | v :: vs => (ER.wipe er vs).unset v
theorem wipe_get {σ : L2.St} {i : Nat} : ∀ {vs : List Nat}, i ∈ vs → i < σ.length → (L2.wipe σ vs)[i]? = some none
  | [], h, _ => by simp at h
  | v :: vs, h, hl => by
    unfold L2.wipe
    by_cases q : v = i
    · subst q
      rw [List.getElem?_set_self (by rw [wipe_length]; exact hl)]
    · rw [List.getElem?_set_ne q]
      exact wipe_get ((List.mem_cons.mp h).resolve_left fun z => q z.symm) hl
theorem wipe_out {σ : L2.St} {i : Nat} : ∀ {vs : List Nat}, i ∉ vs → (L2.wipe σ vs)[i]? = σ[i]?
  | [], _ => rfl
  | v :: vs, h => by
    unfold L2.wipe
    rw [List.getElem?_set_ne (fun z => h (by rw [z]; exact List.mem_cons_self))]
    exact wipe_out fun z => h (List.mem_cons_of_mem _ z)
theorem wipe_set {σ : L2.St} {i : Nat} {o : Option V} {vs : List Nat} (h : i ∈ vs) : L2.wipe (σ.set i o) vs = L2.wipe σ vs := by
  refine List.ext_getElem? fun j => ?_
  by_cases hj : j ∈ vs
  · by_cases l : j < σ.length
    · rw [wipe_get hj l, wipe_get hj (by simpa using l)]
    · rw [List.getElem?_eq_none (by rw [wipe_length]; simpa using l), List.getElem?_eq_none (by rw [wipe_length]; simpa using l)]
  · rw [wipe_out hj, wipe_out hj, List.getElem?_set_ne (fun z => hj (by rw [← z]; exact h))]
theorem wipe_wipe {σ : L2.St} {vs : List Nat} : L2.wipe (L2.wipe σ vs) vs = L2.wipe σ vs := by
  refine List.ext_getElem? fun j => ?_
  by_cases hj : j ∈ vs
  · by_cases l : j < σ.length
    · rw [wipe_get hj l, wipe_get hj (by rw [wipe_length]; exact l)]
    · rw [List.getElem?_eq_none (by rw [wipe_length, wipe_length]; simpa using l), List.getElem?_eq_none (by rw [wipe_length]; simpa using l)]
  · rw [wipe_out hj]
/-! ### targets -/
mutual
def gOf (K : PySem.W.Frag) : Tg → TG
  | .nm i => gName i
  | .tup ts => gTup K ts.length (gsOf K ts)
def gsOf (K : PySem.W.Frag) : List Tg → TGs
  | [] => gNil
  | t :: ts => gCons (gOf K t) (gsOf K ts)
end
mutual
def Tg.slots : Tg → List Nat
  | .nm i => [i]
  | .tup ts => slotsAll ts
def slotsAll : List Tg → List Nat
  | [] => []
  | t :: ts => t.slots ++ slotsAll ts
end
mutual
theorem bindT_ok : ∀ (t : Tg) {d : D} {v : V} {ρ ρ' : Env} {σ : L2.St} {Q : L2.St → Hp → Prop}, bindT t d ρ = some ρ' → Same F H → Rp K F v d → ER K F μ H ρ σ →
    (∀ σ', ER K F μ H ρ' σ' → (∀ vs, (∀ i ∈ t.slots, i ∈ vs) → L2.wipe σ' vs = L2.wipe σ vs) → (∀ (i : Nat) (d : D), ρ'[i]? = some (some (B.own d)) → ρ[i]? = some (some (B.own d)) ∧ σ'[i]? = σ[i]?) → Q σ' H) → gOf K t v σ H Q
  | .nm i, d, v, ρ, ρ', σ, Q, h, _, r, er, k => by
    rw [bindT] at h
    cases h
    refine k _ (er.set r) (fun vs hv => wipe_set (hv i (by rw [Tg.slots]; exact List.mem_singleton.mpr rfl))) fun j e h => ?_
    by_cases q : j = i
    · subst q
      by_cases l : j < ρ.length
      · rw [List.getElem?_set_self l] at h; cases h
      · rw [List.getElem?_eq_none (by simpa using l)] at h; cases h
    · rw [List.getElem?_set_ne (Ne.symm q)] at h
      exact ⟨h, List.getElem?_set_ne (Ne.symm q)⟩
  | .tup ts, d, v, ρ, ρ', σ, Q, h, sb, r, er, k => by
    cases r with
    | @tup a xs ds h1 h2 =>
      rw [bindT] at h
      refine ⟨a, xs, rfl, sqT_sub sb h1, ?_, bindTs_ok ts h sb h2 er fun σ' e w o => k σ' e (fun vs hv => w vs (by rw [Tg.slots] at hv; exact hv)) o⟩
      rw [h2.length]
      exact bindTs_len ts h
    | _ => simp [bindT] at h
theorem bindTs_ok : ∀ (ts : List Tg) {ds : List D} {vs : List V} {ρ ρ' : Env} {σ : L2.St} {Q : L2.St → Hp → Prop}, bindTs ts ds ρ = some ρ' → Same F H → RpL K F vs ds → ER K F μ H ρ σ →
    (∀ σ', ER K F μ H ρ' σ' → (∀ vs, (∀ i ∈ slotsAll ts, i ∈ vs) → L2.wipe σ' vs = L2.wipe σ vs) → (∀ (i : Nat) (d : D), ρ'[i]? = some (some (B.own d)) → ρ[i]? = some (some (B.own d)) ∧ σ'[i]? = σ[i]?) → Q σ' H) → gsOf K ts vs σ H Q
  | [], ds, vs, ρ, ρ', σ, Q, h, _, r, er, k => by
    cases r with
    | nil => rw [bindTs] at h; cases h; exact ⟨rfl, k _ er (fun _ _ => rfl) fun _ _ h => ⟨h, rfl⟩⟩
    | cons _ _ => simp [bindTs] at h
  | t :: ts, ds, vs, ρ, ρ', σ, Q, h, sb, r, er, k => by
    cases r with
    | nil => simp [bindTs] at h
    | @cons v vs d ds q r =>
      rw [bindTs] at h
      cases e : bindT t d ρ with
      | none => rw [e] at h; cases h
      | some ρ1 =>
        rw [e] at h
        exact ⟨v, vs, rfl, bindT_ok t e sb q er fun σ1 er1 w1 o1 => bindTs_ok ts h sb r er1 fun σ' er' w2 o2 => k σ' er' (fun us hu =>
          (w2 us fun i hi => hu i (by rw [slotsAll]; exact List.mem_append_right _ hi)).trans (w1 us fun i hi => hu i (by rw [slotsAll]; exact List.mem_append_left _ hi))) fun i d h =>
          ⟨(o1 i d (o2 i d h).1).1, (o2 i d h).2.trans (o1 i d (o2 i d h).1).2⟩⟩
theorem bindTs_len : ∀ (ts : List Tg) {ds : List D} {ρ ρ' : Env}, bindTs ts ds ρ = some ρ' → ds.length = ts.length
  | [], [], _, _, _ => rfl
  | [], _ :: _, _, _, h => by simp [bindTs] at h
  | _ :: _, [], _, _, h => by simp [bindTs] at h
  | t :: ts, d :: ds, ρ, ρ', h => by
    rw [bindTs] at h
    cases e : bindT t d ρ with
    | none => rw [e] at h; cases h
    | some ρ1 =>
      rw [e] at h
      simp [bindTs_len ts h]
end
end
end Zw
set_option Elab.async false
set_option linter.all false
set_option maxRecDepth 100000
/-! ZwE: enumerate of a tuple. -/
namespace PySem
open Sem (wp)
theorem newB1 {v : Value} {o : Obj} {H : Heap → Prop} (B : Begins v o H) :
    Meets (Builtin.«enumerate.__new__» ⟨[.type "enumerate", v], []⟩) (fun _ R s => H s.heap ∧
      R (.ok (.ret (.ref (s.heap.push o).objs.size))) { s with heap := (s.heap.push o).push { cls := .type "enumerate", data := .fields #[.none, .bool false, .ref s.heap.objs.size, rawInt 0, .none, .none] } }) :=
  .of_wp fun prog w A R s h => by
    obtain ⟨hp, gn, dr, tk, os⟩ := s
    obtain ⟨h1, h⟩ := h
    have hsub := sub_enumerate
    have q1 : ∀ {A2 : Around} {E : Value → Shared → Prop} {Q : Value → Shared → Prop}, Q (.ref hp.objs.size) ⟨hp.push o, gn, dr, tk, os⟩ → wpAny (model prog w) A2 (pyIter v) Q E ⟨hp, gn, dr, tk, os⟩ :=
      fun q => B.iter prog w _ _ ⟨hp, gn, dr, tk, os⟩ _ h1 q
    wp_walk using q1
    refine wpAny_stack_any fun _ => wpAny_pure ?_
    split
    · rename_i c _ _ _ _ _
      cases (c == Value.type "enumerate") <;>
      · wp_walk using q1
        exact ⟨_, rfl, h⟩
    · wp_walk using q1
      exact ⟨_, rfl, h⟩
theorem enum1_begins {prog : Program} {w : World} {A : Around} {E : Value → Shared → Prop} {s : Shared} {v : Value} {o : Obj} {H : Heap → Prop} {Q : Value → Shared → Prop} (B : Begins v o H) (h1 : H s.heap)
    (h : ∀ h', IsEnum h' (s.heap.objs.size + 1) s.heap.objs.size 0 .none → h'.get? s.heap.objs.size = some o → (∀ b u, s.heap.get? b = some u → h'.get? b = some u) → Q (.ref (s.heap.objs.size + 1)) { s with heap := h' }) :
    wpAny (model prog w) A (call (.type "enumerate") [v]) Q E s := by
  refine callType_new F.called_enumerate (by decide) (F.typeCall_enumerate_1 _) (F.newCall_enumerate_1 _) (fun obj => F.args_object_init_2 obj _) F.entry_enumerate_new (newB1 B) ⟨h1, ?_⟩
  have hz : (s.heap.push o).objs.size = s.heap.objs.size + 1 := Heap.size_push ..
  have he : ((s.heap.push o).push { cls := .type "enumerate", data := .fields #[.none, .bool false, .ref s.heap.objs.size, rawInt 0, .none, .none] }).get? (s.heap.push o).objs.size = _ := Heap.get?_push_size _ rfl
  show _ ∧ _
  rw [hz] at he ⊢
  exact ⟨⟨_, he, rfl⟩, h _ he (Heap.get?_push_of_some _ (Heap.get?_push_size _ B.free)) fun b u x => Heap.get?_push_of_some _ (Heap.get?_push_of_some _ x)⟩
end PySem
namespace Zw
open PySem PySem.Spec PyProof.Rows L2
/-- the tuple at a, each item in a new pair -/
def IteT (K : PySem.W.Frag) (a : Addr) : It :=
  ⟨fun i H => ∃ (xs : List V) (x : V), SqT K H a xs ∧ xs[i]? = some x, fun i H v H' => ∃ T x, v = .ref T ∧ H T = none ∧ H' = upd H T (.tup [.int (i : Nat), x]) ∧ ∀ xs, SqT K H a xs → xs[i]? = some x, fun i H => ∃ xs : List V, SqT K H a xs ∧ xs.length ≤ i⟩
theorem tupNe {h : Heap} {a e it : Addr} {i : Nat} {j : Int} {old : Value} {its : Array Value} (he : IsEnum h e it j old) (hi : h.IsTupleIter it a i) (p : h.IsTuple a its) : a ≠ it ∧ e ≠ a := by
  obtain ⟨o, e1, c1, _⟩ := p
  obtain ⟨o2, e2, c2, _⟩ := hi
  refine ⟨fun z => ?_, fun z => ?_⟩
  · rw [z, e2] at e1
    have q := congrArg Obj.cls (Option.some.inj e1)
    rw [c1, c2] at q
    injection q with q
    exact absurd q (by decide)
  · rw [← z] at e1
    have q := congrArg Obj.cls (Option.some.inj (e1.symm.trans he))
    rw [c1] at q
    injection q with q
    exact absurd q (by decide)
theorem turn_enumT {P : Program} {w : World} {K : PySem.W.Frag} {elts : List Expr} {kk : Nat} {tpos : Pos} (a e it : Addr) :
    Turn P w K (.Tuple elts kk tpos) (IteT K a) [e, it] e (fun i h => (∃ old, IsEnum h e it ((i : Nat) : Int) old) ∧ h.IsTupleIter it a i ∧ e ≠ it) := by
  have two : ∀ {b : Addr}, b ∈ [e, it] → b = e ∨ b = it := fun h => by simpa using h
  constructor
  · simp
  · intro i h ⟨⟨old, he⟩, ⟨o, ho, hc, hd⟩, _⟩ b hb
    rcases two hb with z | z
    · subst z; exact ⟨_, he, fun v q => nomatch q⟩
    · subst z; exact ⟨o, ho, fun v q => by rw [hd] at q; cases q⟩
  · intro i h h' ⟨⟨old, he⟩, hi, hne⟩ k
    exact ⟨⟨old, k e List.mem_cons_self _ he⟩, hi.at fun o q => k it (by simp) o q, hne⟩
  · intro X hP hw hK hc i pins s σ H E I hf ⟨⟨old, he⟩, hit, hne⟩ ⟨xs, x, hq, hx⟩
    subst hP hw hK
    obtain ⟨its, rv, p, _⟩ := I.tuple hq
    have p : s.heap.IsTuple a its.toArray := p
    obtain ⟨u, hu, ru⟩ := rv.get hx
    obtain ⟨n1, n2⟩ := tupNe he hit p
    have hlt : i < its.toArray.size := by
      rw [List.size_toArray]
      exact (List.getElem?_eq_some_iff.mp hu).1
    have lE : e < s.heap.objs.size := Heap.lt_size he
    have lI : it < s.heap.objs.size := by obtain ⟨_, q, _⟩ := hit; exact Heap.lt_size q
    refine wpAny_pyNext_enum_itemD (Draws.tuple (show X.A.in1.handled = none from I.ok.hd hc) it a n1 its.toArray) he ⟨hit, p⟩ hlt hne (by simp [hne, n2]) fun u2 h' tk hu2 out ⟨hit', _⟩ hT _ hk => ?_
    have eu : u2 = u := by
      have z : its.toArray[i]? = some u2 := hu2
      rw [List.getElem?_toArray, hu] at z
      cases z
      rfl
    subst eu
    refine ⟨_, rfl, wpAny_letOwnedTupleGo_enum (s := { s with heap := h', toks := tk + 1 }) out fun h2 he2 sb => ?_⟩
    have at2 : h2.get? s.heap.objs.size = some { cls := .type "tuple", data := .seq #[.int i tk, u2] } := (sb.2 _ (Nat.ne_of_gt lE)).trans hT
    have new : ObjOk X.prog X.w (upd H s.heap.objs.size (.tup [.int (i : Nat), x])) h2 s.heap.objs.size (.tup [.int (i : Nat), x]) :=
      ⟨by show 2 ≤ sizeLine; decide, [.int i tk, u2], .cons ⟨_, rfl⟩ (.cons ru .nil), ⟨_, at2, rfl, _, rfl⟩⟩
    have I2 : Inv X pins σ (upd H s.heap.objs.size (.tup [.int (i : Nat), x])) { s with heap := h2, toks := tk + 1 } := by
      refine I.turnedNew (ch := [e, it]) (fun b o hb q => ?_) hf (Nat.le_refl _) new
      have b1 : b ≠ e := fun z => hb (by simp [z])
      have b2 : b ≠ it := fun z => hb (by simp [z])
      exact (sb.2 b b1).trans (hk b o b1 b2 q)
    refine ⟨.ref s.heap.objs.size, _, I2, rfl, ⟨_, x, rfl, I.hok.fresh (Nat.le_refl _), rfl, fun ys hy => by rw [I.tuple_inj hy hq]; exact hx⟩, ⟨⟨u2, ?_⟩, hit'.at fun o q => (sb.2 it (Ne.symm hne)).trans q, hne⟩, fun b hb => ?_⟩
    · rw [show ((i + 1 : Nat) : Int) = (i : Int) + 1 from by omega]
      exact he2
    · rw [upd_ne (Nat.ne_of_lt (by rcases two hb with z | z <;> subst z <;> assumption))]
      exact (hf b hb).1
  · intro X hP hw hK hc i pins s σ H E I hf ⟨⟨old, he⟩, hit, hne⟩ ⟨xs, hq, hx⟩
    subst hP hw hK
    obtain ⟨its, rv, p, _⟩ := I.tuple hq
    have p : s.heap.IsTuple a its.toArray := p
    obtain ⟨f0, f1, f2, f3, f4, f5⟩ := hf it (by simp)
    obtain ⟨n1, n2⟩ := tupNe he hit p
    have hl := rv.length
    have D' : Draws X.prog X.w X.A.in1 it [it, a] 0 (fun _ _ => True) (fun j h => h.IsTupleIter it a (i + j) ∧ h.IsTuple a its.toArray) :=
      ⟨fun _ _ st => let ⟨o, ho, _⟩ := st.1; ⟨o, ho⟩, fun _ _ _ st hk => ⟨st.1.at fun o e => hk it (by simp) o e, st.2.at fun o e => hk a (by simp) o e⟩, fun j s Q E hj => absurd hj (Nat.not_lt_zero j),
        fun s Q E st hE => wpAny_nextOf_tuple_end (I.ok.hd hc) st.1 st.2 (by rw [List.getElem?_toArray]; exact List.getElem?_eq_none_iff.mpr (by omega)) hE⟩
    exact wpAny_pyNext_enum_endD D' he ⟨hit, p⟩ fun h' eb => ⟨rfl, I.turned (t' := s.toks) (fun b o hb q => eb b o hb q) f0 f1 f3 f4 f5⟩
  · intro A i s Q E ⟨⟨_, he⟩, _⟩ h
    exact wpAny_pyIter_enum he h
def iEnumT (K : PySem.W.Frag) (ta : TA) : TI := fun σ H R => ta σ H fun vs H1 => ∃ a xs, vs = [.ref a] ∧ SqT K H1 a xs ∧ R (IteT K a) H1
theorem pi_enumT {X : Cx} {e : Expr} {ta : TA} {p pos tpos : Pos} {elts : List Expr} {kk : Nat} (hg : L2.Gl X "enumerate") (hm : X.mg "enumerate" = none) (ha : PA X [e] ta) (hs : starEach [e] X.env = [(false, eval e X.env)]) :
    PI X (.Tuple elts kk tpos) (.Call (.Name "enumerate" p) [e] [] pos) (iEnumT X.K ta) := by
  constructor
  intro pins s σ H R I h
  refine Call_ (ld_blt I hg hm boot_enumerate (PyProof.Rows.callWith_type1 (thn (ha.run pos pins s σ H _ I h) ?_) hs rfl))
  rintro us s1 ⟨vs, H1, I1, r1, a, xs, ex, hq, q⟩
  subst ex
  match us, r1 with
  | [u], .cons r .nil =>
    obtain rfl : u = Value.ref a := r
    obtain ⟨its, rv, p', _⟩ := I1.tuple hq
    refine enum1_begins (begins_tuple a its.toArray) p' fun h' he hit hk => wpAny_pyIter_enum he ?_
    have I2 : Inv X pins σ H1 { s1 with heap := h' } := I1.kept (t' := s1.toks) hk
    refine ⟨s1.heap.objs.size + 1, [s1.heap.objs.size + 1, s1.heap.objs.size], _, IteT X.K a, H1, rfl, I2, turn_enumT a (s1.heap.objs.size + 1) s1.heap.objs.size, ⟨⟨.none, he⟩, ⟨_, hit, rfl, rfl⟩, Nat.succ_ne_self _⟩, fun b hb => ?_, q⟩
    have le : s1.heap.objs.size ≤ b := by
      rcases (show b = s1.heap.objs.size + 1 ∨ b = s1.heap.objs.size by simpa using hb) with z | z <;> rw [z]
      · exact Nat.le_succ _
      · exact Nat.le_refl _
    exact I1.fpOk le (I1.hok.fresh le)
end Zw
set_option Elab.async false
set_option linter.all false
set_option maxRecDepth 100000
/-! Zw6: what is walked; list comprehensions. -/
namespace Zw
open PySem PySem.Spec PyProof.Rows L2
section
variable {X : Cx} {K : PySem.W.Frag} {xc : Nat → Option XCls} {W : WX} {F : Hp} {μ : List Addr} {S : Store} {H : Hp} {σ : L2.St} {ρ : Env} {G : Gx}
/-! ### walks -/
/-- a turn leaves all as it is, or a new tuple -/
inductive Nw (F H F' H' : Hp) : Prop
  | same : F' = F → H' = H → Nw F H F' H'
  | tup (T : Addr) (vs : List V) : H T = none → F' = upd F T (.tup vs) → H' = upd H T (.tup vs) → Nw F H F' H'
theorem Nw.rel {F' H' : Hp} (n : Nw F H F' H') (r : Rel K F μ S H) : Rel K F' μ S H' := by
  cases n with
  | same e1 e2 => subst e1 e2; exact r
  | tup T vs h e1 e2 => subst e1 e2; exact r.new h nt_tup
theorem Nw.ext {F' H' : Hp} (n : Nw F H F' H') (s : Same F H) : Ext μ F H F' H' := by
  cases n with
  | same e1 e2 => subst e1 e2; exact Ext.refl _ _ _
  | tup T vs h e1 e2 => subst e1 e2; exact Ext.new s h nt_tup
theorem Nw.keep {F' H' : Hp} (n : Nw F H F' H') {a : Addr} {o : HO} (e : H a = some o) : H' a = some o := by
  cases n with
  | same e1 e2 => subst e1 e2; exact e
  | tup T vs h e1 e2 => subst e1 e2; rw [upd_ne (fun z => by rw [z, h] at e; cases e)]; exact e
theorem Nw.non {F' H' : Hp} (n : Nw F H F' H') {a : Addr} {o : HO} (e : H a = some o) (f : F a = none) : F' a = none := by
  cases n with
  | same e1 e2 => subst e1 e2; exact f
  | tup T vs h e1 e2 => subst e1 e2; rw [upd_ne (fun z => by rw [z, h] at e; cases e)]; exact f
/-- J walks what xs says, in every state that P holds of -/
structure Wk (K : PySem.W.Frag) (P : Hp → Hp → Prop) (J : It) (xs : List D) : Prop where
  go : ∀ (i : Nat) (F H : Hp), P F H → i < xs.length → J.go i H
  stop : ∀ (F H : Hp), P F H → J.stop xs.length H
  yld : ∀ (i : Nat) (F H : Hp) (x : V) (H' : Hp), P F H → J.yld i H x H' → i < xs.length → ∃ F', Nw F H F' H' ∧ ∃ d, xs[i]? = some d ∧ Rp K F' x d
/-- two sorts of what stays: the state only grew; the frozen part only grew -/
def WkAny (K : PySem.W.Frag) (μ : List Addr) (F1 H1 : Hp) (J : It) (bs : List B) (xs : List D) : Prop :=
  Wk K (fun F H => Ext μ F1 H1 F H ∧ Same F H) J xs ∧ ((frzs bs).isSome = true → Wk K (fun F H => Same F1 F ∧ Same F H) J xs)
def seenW (kind : Nat) (bs : List B) : Option (List B × List D) := ((seens bs).bind (walk kind)).map fun xs => (bs, xs)
def wkM (G : Gx) (kind : Nat) (its : List CE) (ρ : Env) (s : Store) : R (List B × List D) := (evl G its ρ s).bind fun bs s => .of (seenW kind bs) s
def okI (K : PySem.W.Frag) (xc : Nat → Option XCls) (μ : List Addr) (W : WX) (F H : Hp) (σ : L2.St) (r : R (List B × List D)) (R' : It → Hp → Prop) : Prop := match r with
  | .ok p S' => ∀ F' H' J, Ext μ F H F' H' → Rel K F' μ S' H' → WkAny K μ F' H' J p.1 p.2 → R' J H'
  | .ex c p S' => ∀ F' H' cls d, Ext μ F H F' H' → Rel K F' μ S' H' → XR K xc F' H' c p cls d → W cls d σ H'
  | .bad => False
def tMI (K : PySem.W.Frag) (xc : Nat → Option XCls) (W : WX) (m : Env → Store → R (List B × List D)) : TI := fun σ H R' =>
  ∃ F μ S ρ, Rel K F μ S H ∧ ER K F μ H ρ σ ∧ okI K xc μ W F H σ (m ρ S) R'
theorem PI.weak {X : Cx} {tg e : Expr} {t t' : TI} (h : PI X tg e t) (w : ∀ σ H Q, t' σ H Q → t σ H Q) : PI X tg e t' := ⟨fun pins s σ H Q I q => h.run pins s σ H Q I (w σ H Q q)⟩
theorem PI.alt {X : Cx} {tg e : Expr} {t u : TI} (h : PI X tg e t) (k : PI X tg e u) : PI X tg e (fun σ H Q => t σ H Q ∨ u σ H Q) :=
  ⟨fun pins s σ H Q I q => q.elim (h.run pins s σ H Q I) (k.run pins s σ H Q I)⟩
/-- a list that stays -/
theorem wk_list {a : Addr} {vs : List V} {xs : List D} {P : Hp → Hp → Prop} (h : ∀ F H, P F H → SqL K H a vs ∧ RpL K F vs xs) : Wk K P (Itl K a) xs where
  go := fun i F H p hi => by
    obtain ⟨q, r⟩ := h F H p
    have hl := r.length
    exact ⟨vs, vs[i]'(by omega), q, List.getElem?_eq_getElem _⟩
  stop := fun F H p => by
    obtain ⟨q, r⟩ := h F H p
    exact ⟨vs, q, by rw [r.length]; exact Nat.le_refl _⟩
  yld := fun i F H x H' p y hi => by
    obtain ⟨q, r⟩ := h F H p
    obtain ⟨e, y⟩ := y
    obtain ⟨v, h1, h2⟩ := r.get (List.getElem?_eq_getElem hi)
    have := y vs q
    rw [h1] at this
    cases this
    exact ⟨F, .same rfl e, _, List.getElem?_eq_getElem hi, h2⟩
theorem wk_tup {a : Addr} {vs : List V} {xs : List D} {P : Hp → Hp → Prop} (h : ∀ F H, P F H → SqT K H a vs ∧ RpL K F vs xs) : Wk K P (Itt K a) xs where
  go := fun i F H p hi => by
    obtain ⟨q, r⟩ := h F H p
    have hl := r.length
    exact ⟨vs, vs[i]'(by omega), q, List.getElem?_eq_getElem _⟩
  stop := fun F H p => by
    obtain ⟨q, r⟩ := h F H p
    exact ⟨vs, q, by rw [r.length]; exact Nat.le_refl _⟩
  yld := fun i F H x H' p y hi => by
    obtain ⟨q, r⟩ := h F H p
    obtain ⟨e, y⟩ := y
    obtain ⟨v, h1, h2⟩ := r.get (List.getElem?_eq_getElem hi)
    have := y vs q
    rw [h1] at this
    cases this
    exact ⟨F, .same rfl e, _, List.getElem?_eq_getElem hi, h2⟩
theorem wk_range {lo hi : Int} {xs : List D} {P : Hp → Hp → Prop} (h : xs = (List.range (hi - lo).toNat).map fun (k : Nat) => D.int (lo + (k : Int))) : Wk K P (Itr lo (hi - lo).toNat) xs where
  go := fun i F H p hi => by
    subst h
    simp at hi
    show i < _
    omega
  stop := fun F H p => by
    subst h
    show _ ≤ _
    simp
  yld := fun i F H x H' p y hi => by
    obtain ⟨e, y⟩ := y
    subst h y
    refine ⟨F, .same rfl e, .int (lo + i), ?_, .int _⟩
    rw [List.length_map, List.length_range] at hi
    rw [List.getElem?_map, List.getElem?_range hi]
    rfl
theorem sq_own {a : Addr} {vs : List V} {F1 H1 F H : Hp} (x : Ext μ F1 H1 F H) (m : a ∉ μ) (h : H1 a = some (.lst vs)) : H a = some (.lst vs) := x.keep a _ h (fun _ z => by cases z) m
theorem rel_in {F1 H1 : Hp} {S : Store} (r : Rel K F1 μ S H1) {a : Addr} {o : HO} (h : F1 a = some o) : a ∉ μ := fun z => by rw [r.dis a z] at h; cases h
theorem wkAny_lst {F1 H1 : Hp} {S1 : Store} {v : V} {b : B} {xs : List D} (nb : ∀ d, b ≠ .own d) (r : Rel K F1 μ S1 H1) (bv : BRp K F1 μ H1 v b) (e : b.seen = some (.lst xs)) : ∃ a, v = .ref a ∧ (∃ ys, SqL K H1 a ys) ∧ WkAny K μ F1 H1 (Itl K a) [b] xs := by
  cases b with
  | t d =>
    cases e
    cases bv with
    | @lst a vs _ h1 h2 =>
      exact ⟨a, rfl, ⟨vs, SqL.of (r.sub _ _ h1)⟩, wk_list fun F H p => ⟨SqL.of (p.2 _ _ (p.1.fs _ _ h1)), h2.mono p.1.fs⟩, fun _ => wk_list fun F H p => ⟨SqL.of (p.2 _ _ (p.1 _ _ h1)), h2.mono p.1⟩⟩
  | own d =>
    exact absurd rfl (nb d)
  | bor d =>
    cases e
    obtain ⟨a, vs, ds, e1, e2, h1, h2, n, m⟩ := bv
    cases e2
    exact ⟨a, e1, ⟨vs, SqL.of h1⟩, wk_list fun F H p => ⟨SqL.of (sq_own p.1 m h1), h2.mono p.1.fs⟩, fun z => by cases z⟩
  | sc d =>
    cases e
    obtain ⟨a, vs, ds, e1, e2, h1, h2⟩ := bv
    cases e2
    exact ⟨a, e1, ⟨vs, h1.sq⟩, wk_list fun F H p => ⟨(h1.to fun o e m => ⟨p.1.keep a _ e (fun _ z => by cases z) m, m⟩).sq, h2.mono p.1.fs⟩, fun z => by cases z⟩
  | r k => cases e
theorem wkAny_tup {F1 H1 : Hp} {S1 : Store} {v : V} {b : B} {xs : List D} (r : Rel K F1 μ S1 H1) (bv : BRp K F1 μ H1 v b) (e : b.seen = some (.tup xs)) : ∃ a, v = .ref a ∧ (∃ ys, SqT K H1 a ys) ∧ WkAny K μ F1 H1 (Itt K a) [b] xs := by
  cases b with
  | t d =>
    cases e
    cases bv with
    | @tup a vs _ h1 h2 =>
      exact ⟨a, rfl, ⟨vs, sqT_sub r.sub h1⟩, wk_tup fun F H p => ⟨sqT_sub p.2 (sqT_sub p.1.fs h1), h2.mono p.1.fs⟩, fun _ => wk_tup fun F H p => ⟨sqT_sub p.2 (sqT_sub p.1 h1), h2.mono p.1⟩⟩
  | own d => cases e; obtain ⟨a, vs, ds, e1, e2, _⟩ := bv; cases e2
  | bor d => cases e; obtain ⟨a, vs, ds, e1, e2, _⟩ := bv; cases e2
  | sc d => cases e; obtain ⟨a, vs, ds, e1, e2, _⟩ := bv; cases e2
  | r k => cases e
theorem still_own (b : B) : ∀ d, b.still ≠ .own d := by intro d h; cases b <;> cases h
theorem i_items {tg e : Expr} {c : CE} (he : PE X e (tM X.K xc W (ev G c))) : PI X tg e (tMI X.K xc W (wkM G 0 [c])) := by
  refine PI.weak (PI.alt (pi_list he) (pi_tup he)) fun σ H Q ⟨F, μ, S, ρ, rel, er, h⟩ => ?_
  rw [show wkM G 0 [c] ρ S = ((ev G c ρ S).bind fun x s => .of (seenW 0 [x.still]) s) by
    unfold wkM
    rw [evl]
    cases ev G c ρ S <;> rfl] at h
  cases q : ev G c ρ S with
  | bad => rw [q] at h; exact h.elim
  | ex c p S1 => rw [q] at h; exact .inl ⟨F, μ, S, ρ, rel, er, by rw [q]; exact h⟩
  | ok b S1 =>
    rw [q] at h
    have h : okI X.K xc μ W F H σ (.of (seenW 0 [b.still]) S1) Q := h
    cases q2 : b.still.seen with
    | none => simp [seenW, seens, q2, R.of] at h; exact h.elim
    | some d =>
      cases d with
      | tup xs =>
        have e2 : seenW 0 [b.still] = some ([b.still], xs) := by simp [seenW, seens, q2, walk, itemsD]
        rw [e2] at h
        refine .inr ⟨F, μ, S, ρ, rel, er, okE_still ?_⟩
        rw [q]
        intro F1 H1 v e1 r1 bv fr
        obtain ⟨a, ea, hs, wk⟩ := wkAny_tup r1 bv q2
        exact ⟨a, ea, hs, h F1 H1 _ e1 r1 wk⟩
      | lst xs =>
        have e2 : seenW 0 [b.still] = some ([b.still], xs) := by simp [seenW, seens, q2, walk, itemsD]
        rw [e2] at h
        refine .inl ⟨F, μ, S, ρ, rel, er, okE_still ?_⟩
        rw [q]
        intro F1 H1 v e1 r1 bv fr
        obtain ⟨a, ea, hs, wk⟩ := wkAny_lst (still_own b) r1 bv q2
        exact ⟨a, ea, hs, h F1 H1 _ e1 r1 wk⟩
      | _ => simp [seenW, seens, q2, walk, itemsD, R.of] at h; exact h.elim
theorem okL_of {r : R (List B)} {g : List B → Option (List B × List D)} {Q : List V → Hp → Prop} {R' : It → Hp → Prop} (h : okI K xc μ W F H σ (r.bind fun bs s => .of (g bs) s) R')
    (k : ∀ F1 H1 vs bs S1 p, Ext μ F H F1 H1 → Rel K F1 μ S1 H1 → BRs K F1 μ H1 vs bs → g bs = some p → (∀ J, WkAny K μ F1 H1 J p.1 p.2 → R' J H1) → Q vs H1) : okL K xc μ W F H σ r Q := by
  cases r with
  | ok bs S1 =>
    intro F1 H1 vs e1 r1 b1
    have h : okI K xc μ W F H σ (.of (g bs) S1) R' := h
    cases q : g bs with
    | none => rw [q] at h; exact h.elim
    | some p =>
      rw [q] at h
      exact k F1 H1 vs bs S1 p e1 r1 b1 q fun J w => h F1 H1 J e1 r1 w
  | ex c p S1 => exact h
  | bad => exact h
theorem seen_int {b : B} {i : Int} {F1 H1 : Hp} {v : V} (bv : BRp K F1 μ H1 v b) (h : b.seen = some (.int i)) : v = .int i := by
  cases b with
  | t d => cases h; exact rp_int bv
  | own d => cases h; obtain ⟨a, vs, ds, e1, e2, _⟩ := bv; cases e2
  | bor d => cases h; obtain ⟨a, vs, ds, e1, e2, _⟩ := bv; cases e2
  | sc d => cases h; obtain ⟨a, vs, ds, e1, e2, _⟩ := bv; cases e2
  | r k => cases h
theorem range_some {lo hi : Int} {xs : List D} (h : rangeD lo hi = some xs) : (-(2 ^ 62) ≤ lo ∧ lo < 2 ^ 62 ∧ -(2 ^ 62) ≤ hi ∧ hi < 2 ^ 62) ∧ xs = (List.range (hi - lo).toNat).map fun (k : Nat) => D.int (lo + (k : Int)) := by
  unfold rangeD at h
  split at h
  · cases h; exact ⟨by assumption, rfl⟩
  · cases h
theorem seenW1 {bs : List B} {p : List B × List D} (h : seenW 1 bs = some p) : ∃ b n, bs = [b] ∧ b.seen = some (.int n) ∧ rangeD 0 n = some p.2 := by
  unfold seenW at h
  match bs with
  | [] => simp [seens, walk] at h
  | [b] =>
    cases q : b.seen with
    | none => simp [seens, q] at h
    | some d =>
      simp only [seens, q, Option.bind_some, Option.map_some] at h
      cases d with
      | int n =>
        obtain ⟨xs, e1, e2⟩ := Option.map_eq_some_iff.mp h
        exact ⟨b, n, rfl, q, by rw [← e2]; exact e1⟩
      | _ => simp [walk] at h
  | b :: c :: r =>
    cases q : b.seen with
    | none => simp [seens, q] at h
    | some d =>
      cases q2 : c.seen with
      | none => simp [seens, q, q2] at h
      | some d2 =>
        cases q3 : seens r with
        | none => simp [seens, q, q2, q3] at h
        | some d3 => simp [seens, q, q2, q3, walk] at h
theorem seenW2 {bs : List B} {p : List B × List D} (h : seenW 2 bs = some p) : ∃ b c n m, bs = [b, c] ∧ b.seen = some (.int n) ∧ c.seen = some (.int m) ∧ rangeD n m = some p.2 := by
  unfold seenW at h
  match bs with
  | [] => simp [seens, walk] at h
  | [b] =>
    cases q : b.seen with
    | none => simp [seens, q] at h
    | some d => simp [seens, q, walk] at h
  | [b, c] =>
    cases q : b.seen with
    | none => simp [seens, q] at h
    | some d =>
      cases q2 : c.seen with
      | none => simp [seens, q, q2] at h
      | some d2 =>
        simp only [seens, q, q2, Option.bind_some, Option.map_some] at h
        cases d with
        | int n =>
          cases d2 with
          | int m =>
            obtain ⟨xs, e1, e2⟩ := Option.map_eq_some_iff.mp h
            exact ⟨b, c, n, m, rfl, q, q2, by rw [← e2]; exact e1⟩
          | _ => simp [walk] at h
        | _ => simp [walk] at h
  | b :: c :: d :: r =>
    cases q : b.seen with
    | none => simp [seens, q] at h
    | some d1 =>
      cases q2 : c.seen with
      | none => simp [seens, q, q2] at h
      | some d2 =>
        cases q4 : d.seen with
        | none => simp [seens, q, q2, q4] at h
        | some d4 =>
          cases q3 : seens r with
          | none => simp [seens, q, q2, q3, q4] at h
          | some d3 => simp [seens, q, q2, q3, q4, walk] at h
theorem i_range1 {tg a : Expr} {c : CE} {p pos : Pos} (hg : L2.Gl X "range") (hm : X.mg "range" = none) (ha : PA X [a] (tML X.K xc W (evl G [c]))) (hs : notStar a = true) :
    PI X tg (.Call (.Name "range" p) [a] [] pos) (tMI X.K xc W (wkM G 1 [c])) := by
  refine PI.weak (pi_range1 hg hm ha (starEach_plain hs)) fun σ H Q ⟨F, μ, S, ρ, rel, er, h⟩ => ⟨F, μ, S, ρ, rel, er, okL_of (g := seenW 1) h fun F1 H1 vs bs S1 p e1 r1 b1 hp k => ?_⟩
  obtain ⟨b, n, e, hb, hr⟩ := seenW1 hp
  subst e
  obtain ⟨⟨_, _, l1, l2⟩, ex⟩ := range_some hr
  cases b1 with
  | cons bv rr =>
    cases rr
    rw [seen_int bv hb]
    refine ⟨n, rfl, l1, l2, ?_⟩
    have := k (Itr 0 (n - 0).toNat) ⟨wk_range ex, fun _ => wk_range ex⟩
    rw [Int.sub_zero] at this
    exact this
theorem i_range2 {tg a b : Expr} {ca cb : CE} {p pos : Pos} (hg : L2.Gl X "range") (hm : X.mg "range" = none) (ha : PA X [a, b] (tML X.K xc W (evl G [ca, cb]))) (hs : notStar a = true) (hs2 : notStar b = true) :
    PI X tg (.Call (.Name "range" p) [a, b] [] pos) (tMI X.K xc W (wkM G 2 [ca, cb])) := by
  refine PI.weak (pi_range2 hg hm ha (by rw [starEach_plain hs, starEach_plain hs2]; rfl) (by rw [starEach_plain hs2]; rfl)) fun σ H Q ⟨F, μ, S, ρ, rel, er, h⟩ => ⟨F, μ, S, ρ, rel, er, okL_of (g := seenW 2) h fun F1 H1 vs bs S1 p e1 r1 b1 hp k => ?_⟩
  obtain ⟨b, c, n, m, e, hb, hc, hr⟩ := seenW2 hp
  subst e
  obtain ⟨l, ex⟩ := range_some hr
  cases b1 with
  | cons bv rr =>
    cases rr with
    | cons cv rr =>
      cases rr
      rw [seen_int bv hb, seen_int cv hc]
      exact ⟨n, m, rfl, l, k (Itr n (m - n).toNat) ⟨wk_range ex, fun _ => wk_range ex⟩⟩
/-! ### enumerate, zip -/
theorem evl_still : ∀ {cs : List CE} {ρ : Env} {s s' : Store} {bs : List B}, evl G cs ρ s = .ok bs s' → ∀ b ∈ bs, ∀ d, b ≠ .own d
  | [], _, _, _, _, h, b, hb, d => by
    rw [evl] at h
    cases h
    cases hb
  | c :: cs, ρ, s, s', bs, h, b, hb, d => by
    rw [evl] at h
    cases q : ev G c ρ s with
    | bad => rw [q] at h; cases h
    | ex a p s1 => rw [q] at h; cases h
    | ok x s1 =>
      rw [q] at h
      have h : ((evl G cs ρ s1).bind fun xs s => .ok (x.still :: xs) s) = .ok bs s' := h
      cases q2 : evl G cs ρ s1 with
      | bad => rw [q2] at h; cases h
      | ex a p s2 => rw [q2] at h; cases h
      | ok ys s2 =>
        rw [q2] at h
        cases h
        rcases List.mem_cons.mp hb with e | hb
        · rw [e]; exact still_own x d
        · exact evl_still q2 b hb d
theorem evl_len : ∀ {cs : List CE} {ρ : Env} {s s' : Store} {bs : List B}, evl G cs ρ s = .ok bs s' → bs.length = cs.length
  | [], _, _, _, _, h => by
    rw [evl] at h
    cases h
    rfl
  | c :: cs, ρ, s, s', bs, h => by
    rw [evl] at h
    cases q : ev G c ρ s with
    | bad => rw [q] at h; cases h
    | ex a p s1 => rw [q] at h; cases h
    | ok x s1 =>
      rw [q] at h
      have h : ((evl G cs ρ s1).bind fun xs s => .ok (x.still :: xs) s) = .ok bs s' := h
      cases q2 : evl G cs ρ s1 with
      | bad => rw [q2] at h; cases h
      | ex a p s2 => rw [q2] at h; cases h
      | ok ys s2 =>
        rw [q2] at h
        cases h
        rw [List.length_cons, List.length_cons, evl_len q2]
/-- what is known of a list, of a tuple that is walked -/
def StL (K : PySem.W.Frag) (μ : List Addr) (F1 H1 : Hp) (b : B) (xs : List D) (v : V) : Prop := ∃ a vs, v = .ref a ∧ SqL K H1 a vs ∧ (∀ F H, Ext μ F1 H1 F H ∧ Same F H → SqL K H a vs ∧ RpL K F vs xs) ∧ (b.frz.isSome = true → ∀ F H, Same F1 F ∧ Same F H → SqL K H a vs ∧ RpL K F vs xs)
def StT (K : PySem.W.Frag) (μ : List Addr) (F1 H1 : Hp) (b : B) (xs : List D) (v : V) : Prop := ∃ a vs, v = .ref a ∧ SqT K H1 a vs ∧ (∀ F H, Ext μ F1 H1 F H ∧ Same F H → SqT K H a vs ∧ RpL K F vs xs) ∧ (b.frz.isSome = true → ∀ F H, Same F1 F ∧ Same F H → SqT K H a vs ∧ RpL K F vs xs)
theorem stL_of {F1 H1 : Hp} {S1 : Store} {v : V} {b : B} {xs : List D} (nb : ∀ d, b ≠ .own d) (r : Rel K F1 μ S1 H1) (bv : BRp K F1 μ H1 v b) (e : b.seen = some (.lst xs)) : StL K μ F1 H1 b xs v := by
  cases b with
  | t d =>
    cases e
    cases bv with
    | @lst a vs _ h1 h2 => exact ⟨a, vs, rfl, SqL.of (r.sub _ _ h1), fun F H p => ⟨SqL.of (p.2 _ _ (p.1.fs _ _ h1)), h2.mono p.1.fs⟩, fun _ F H p => ⟨SqL.of (p.2 _ _ (p.1 _ _ h1)), h2.mono p.1⟩⟩
  | own d => exact absurd rfl (nb d)
  | bor d =>
    cases e
    obtain ⟨a, vs, ds, e1, e2, h1, h2, n, m⟩ := bv
    cases e2
    exact ⟨a, vs, e1, SqL.of h1, fun F H p => ⟨SqL.of (sq_own p.1 m h1), h2.mono p.1.fs⟩, fun z => by cases z⟩
  | sc d =>
    cases e
    obtain ⟨a, vs, ds, e1, e2, h1, h2⟩ := bv
    cases e2
    exact ⟨a, vs, e1, h1.sq, fun F H p => ⟨(h1.to fun o e m => ⟨p.1.keep a _ e (fun _ z => by cases z) m, m⟩).sq, h2.mono p.1.fs⟩, fun z => by cases z⟩
  | r k => cases e
theorem stT_of {F1 H1 : Hp} {S1 : Store} {v : V} {b : B} {xs : List D} (r : Rel K F1 μ S1 H1) (bv : BRp K F1 μ H1 v b) (e : b.seen = some (.tup xs)) : StT K μ F1 H1 b xs v := by
  cases b with
  | t d =>
    cases e
    cases bv with
    | @tup a vs _ h1 h2 => exact ⟨a, vs, rfl, sqT_sub r.sub h1, fun F H p => ⟨sqT_sub p.2 (sqT_sub p.1.fs h1), h2.mono p.1.fs⟩, fun _ F H p => ⟨sqT_sub p.2 (sqT_sub p.1 h1), h2.mono p.1⟩⟩
  | own d => cases e; obtain ⟨a, vs, ds, e1, e2, _⟩ := bv; cases e2
  | bor d => cases e; obtain ⟨a, vs, ds, e1, e2, _⟩ := bv; cases e2
  | sc d => cases e; obtain ⟨a, vs, ds, e1, e2, _⟩ := bv; cases e2
  | r k => cases e
theorem enumD_len (xs : List D) : (enumD xs).length = xs.length := by simp [enumD]
theorem enumD_get {xs : List D} {i : Nat} (h : i < xs.length) : (enumD xs)[i]? = some (.tup [.int (i : Nat), xs[i]]) := by simp [enumD, h]
theorem zipD_len (xs ys : List D) : (zipD xs ys).length = min xs.length ys.length := by simp [zipD]
theorem zipD_get {xs ys : List D} {i : Nat} (h : i < xs.length) (h2 : i < ys.length) : (zipD xs ys)[i]? = some (.tup [xs[i], ys[i]]) := by
  have e : (xs.zip ys)[i]? = some (xs[i], ys[i]) := List.getElem?_zip_eq_some.mpr ⟨List.getElem?_eq_getElem h, List.getElem?_eq_getElem h2⟩
  unfold zipD
  rw [List.getElem?_map, e]
  rfl
theorem upd_sub {F H : Hp} {T : Addr} {o : HO} (s : Same F H) (h : H T = none) : Same F (upd F T o) := fun a u e => by
  rw [upd_ne (fun z => by rw [z] at e; rw [s _ _ e] at h; cases h)]
  exact e
theorem wk_en {Sq : Hp → List V → Prop} {J : It} {vs : List V} {xs : List D} {P : Hp → Hp → Prop} (hs : ∀ F H, P F H → Same F H) (h : ∀ F H, P F H → Sq H vs ∧ RpL K F vs xs)
    (j1 : J.go = fun i H => ∃ (ys : List V) (x : V), Sq H ys ∧ ys[i]? = some x) (j2 : J.yld = fun i H v H' => ∃ T x, v = .ref T ∧ H T = none ∧ H' = upd H T (.tup [.int (i : Nat), x]) ∧ ∀ ys, Sq H ys → ys[i]? = some x) (j3 : J.stop = fun i H => ∃ ys : List V, Sq H ys ∧ ys.length ≤ i) : Wk K P J (enumD xs) where
  go := fun i F H p hi => by
    obtain ⟨q, r⟩ := h F H p
    have hl := r.length
    rw [enumD_len] at hi
    rw [j1]
    exact ⟨vs, vs[i]'(by omega), q, List.getElem?_eq_getElem _⟩
  stop := fun F H p => by
    obtain ⟨q, r⟩ := h F H p
    rw [j3]
    exact ⟨vs, q, by rw [r.length, enumD_len]; exact Nat.le_refl _⟩
  yld := fun i F H v H' p y hi => by
    obtain ⟨q, r⟩ := h F H p
    rw [enumD_len] at hi
    rw [j2] at y
    obtain ⟨T, x, ev, hT, eH, y⟩ := y
    obtain ⟨w, h1, h2⟩ := r.get (List.getElem?_eq_getElem hi)
    have := y vs q
    rw [h1] at this
    cases this
    refine ⟨upd F T (.tup [.int (i : Nat), x]), .tup T _ hT rfl eH, _, enumD_get hi, ?_⟩
    rw [ev]
    exact .tup (.inl (.inl upd_same)) (.cons (.int _) (.cons (h2.mono (upd_sub (hs F H p) hT)) .nil))
theorem wk_zp {Sq Sr : Hp → List V → Prop} {J : It} {vs ws : List V} {xs ys : List D} {P : Hp → Hp → Prop} (hs : ∀ F H, P F H → Same F H) (h : ∀ F H, P F H → Sq H vs ∧ RpL K F vs xs) (g : ∀ F H, P F H → Sr H ws ∧ RpL K F ws ys)
    (j1 : J.go = fun i H => ∃ (as bs : List V) (x y : V), Sq H as ∧ Sr H bs ∧ as[i]? = some x ∧ bs[i]? = some y) (j2 : J.yld = fun i H v H' => ∃ T x y, v = .ref T ∧ H T = none ∧ H' = upd H T (.tup [x, y]) ∧ (∀ as, Sq H as → as[i]? = some x) ∧ ∀ bs, Sr H bs → bs[i]? = some y)
    (j3 : J.stop = fun i H => ∃ as bs : List V, Sq H as ∧ Sr H bs ∧ (as.length ≤ i ∨ bs.length ≤ i)) : Wk K P J (zipD xs ys) where
  go := fun i F H p hi => by
    obtain ⟨q, r⟩ := h F H p
    obtain ⟨q2, r2⟩ := g F H p
    have hl := r.length
    have hl2 := r2.length
    rw [zipD_len] at hi
    rw [j1]
    exact ⟨vs, ws, vs[i]'(by omega), ws[i]'(by omega), q, q2, List.getElem?_eq_getElem _, List.getElem?_eq_getElem _⟩
  stop := fun F H p => by
    obtain ⟨q, r⟩ := h F H p
    obtain ⟨q2, r2⟩ := g F H p
    rw [j3]
    exact ⟨vs, ws, q, q2, by rw [r.length, r2.length, zipD_len]; omega⟩
  yld := fun i F H v H' p y hi => by
    obtain ⟨q, r⟩ := h F H p
    obtain ⟨q2, r2⟩ := g F H p
    rw [zipD_len] at hi
    rw [j2] at y
    obtain ⟨T, x, z, ev, hT, eH, y1, y2⟩ := y
    have i1 : i < xs.length := by omega
    have i2 : i < ys.length := by omega
    obtain ⟨w, h1, h2⟩ := r.get (List.getElem?_eq_getElem i1)
    obtain ⟨u, h3, h4⟩ := r2.get (List.getElem?_eq_getElem i2)
    have e1 := y1 vs q
    have e2 := y2 ws q2
    rw [h1] at e1
    rw [h3] at e2
    cases e1
    cases e2
    refine ⟨upd F T (.tup [x, z]), .tup T _ hT rfl eH, _, zipD_get i1 i2, ?_⟩
    rw [ev]
    exact .tup (.inl (.inl upd_same)) (.cons (h2.mono (upd_sub (hs F H p) hT)) (.cons (h4.mono (upd_sub (hs F H p) hT)) .nil))
theorem frzs1 {b : B} (h : (frzs [b]).isSome = true) : b.frz.isSome = true := by
  cases q : b.frz with
  | none => simp [frzs, q] at h
  | some d => rfl
theorem frzs2 {b c : B} (h : (frzs [b, c]).isSome = true) : b.frz.isSome = true ∧ c.frz.isSome = true := by
  cases q : b.frz with
  | none => simp [frzs, q] at h
  | some d =>
    cases q2 : c.frz with
    | none => simp [frzs, q, q2] at h
    | some e => exact ⟨rfl, rfl⟩
theorem i_enum {elts : List Expr} {kk : Nat} {e : Expr} {c : CE} {p pos tpos : Pos} (hg : L2.Gl X "enumerate") (hm : X.mg "enumerate" = none) (ha : PA X [e] (tML X.K xc W (evl G [c]))) (hs : notStar e = true) :
    PI X (.Tuple elts kk tpos) (.Call (.Name "enumerate" p) [e] [] pos) (tMI X.K xc W (wkM G 3 [c])) := by
  refine PI.weak (PI.alt (pi_enum hg hm ha (starEach_plain hs)) (pi_enumT hg hm ha (starEach_plain hs))) fun σ H Q ⟨F, μ, S, ρ, rel, er, h⟩ => ?_
  unfold wkM at h
  have stl := fun bs s' => evl_still (G := G) (cs := [c]) (ρ := ρ) (s := S) (s' := s') (bs := bs)
  cases q : evl G [c] ρ S with
  | bad => rw [q] at h; exact h.elim
  | ex a p S1 => rw [q] at h; exact .inl ⟨F, μ, S, ρ, rel, er, by rw [q]; exact h⟩
  | ok bs S1 =>
    rw [q] at h
    have h : okI X.K xc μ W F H σ (.of (seenW 3 bs) S1) Q := h
    have len := evl_len q
    match bs, len, q, h with
    | [b], _, q, h =>
      have nb := stl _ _ q b List.mem_cons_self
      cases q2 : b.seen with
      | none => simp [seenW, seens, q2, R.of] at h; exact h.elim
      | some d =>
        cases d with
        | tup xs =>
          rw [show seenW 3 [b] = some ([b], enumD xs) by simp [seenW, seens, q2, walk, itemsD]] at h
          refine .inr ⟨F, μ, S, ρ, rel, er, ?_⟩
          rw [q]
          intro F1 H1 vs e1 r1 b1
          cases b1 with
          | cons bv rr =>
            cases rr
            obtain ⟨a, ys, ea, sq, w1, w2⟩ := stT_of r1 bv q2
            exact ⟨a, ys, by rw [ea], sq, h F1 H1 _ e1 r1 ⟨wk_en (Sq := fun H => SqT X.K H a) (fun _ _ p => p.2) w1 rfl rfl rfl, fun z => wk_en (Sq := fun H => SqT X.K H a) (fun _ _ p => p.2) (w2 (frzs1 z)) rfl rfl rfl⟩⟩
        | lst xs =>
          rw [show seenW 3 [b] = some ([b], enumD xs) by simp [seenW, seens, q2, walk, itemsD]] at h
          refine .inl ⟨F, μ, S, ρ, rel, er, ?_⟩
          rw [q]
          intro F1 H1 vs e1 r1 b1
          cases b1 with
          | cons bv rr =>
            cases rr
            obtain ⟨a, ys, ea, sq, w1, w2⟩ := stL_of nb r1 bv q2
            exact ⟨a, ys, by rw [ea], sq, h F1 H1 _ e1 r1 ⟨wk_en (Sq := fun H => SqL X.K H a) (fun _ _ p => p.2) w1 rfl rfl rfl, fun z => wk_en (Sq := fun H => SqL X.K H a) (fun _ _ p => p.2) (w2 (frzs1 z)) rfl rfl rfl⟩⟩
        | _ => simp [seenW, seens, q2, walk, itemsD, R.of] at h; exact h.elim
theorem i_zip {elts : List Expr} {kk : Nat} {e e2 : Expr} {c c2 : CE} {p pos tpos : Pos} (hg : L2.Gl X "zip") (hm : X.mg "zip" = none) (ha : PA X [e, e2] (tML X.K xc W (evl G [c, c2]))) (hs : notStar e = true) (hs2 : notStar e2 = true) :
    PI X (.Tuple elts kk tpos) (.Call (.Name "zip" p) [e, e2] [] pos) (tMI X.K xc W (wkM G 4 [c, c2])) := by
  refine PI.weak (RZ.pi_zipA hg hm ha (starEach_plain hs) (by rw [starEach_plain hs2]; rfl)) fun σ H Q ⟨F, μ, S, ρ, rel, er, h⟩ => ⟨F, μ, S, ρ, rel, er, ?_⟩
  unfold wkM at h
  have stl := fun bs s' => evl_still (G := G) (cs := [c, c2]) (ρ := ρ) (s := S) (s' := s') (bs := bs)
  cases q : evl G [c, c2] ρ S with
  | bad => rw [q] at h; exact h.elim
  | ex a p S1 => rw [q] at h; exact h
  | ok bs S1 =>
    rw [q] at h
    have h : okI X.K xc μ W F H σ (.of (seenW 4 bs) S1) Q := h
    intro F1 H1 vs e1 r1 b1
    have len := evl_len q
    match bs, len, vs, b1, q, h with
    | [b, d], _, [v, w], .cons bv (.cons dv .nil), q, h =>
      have nb := stl _ _ q b List.mem_cons_self
      have nd := stl _ _ q d (by simp)
      cases q2 : b.seen with
      | none => simp [seenW, seens, q2, R.of] at h; exact h.elim
      | some x =>
        cases q3 : d.seen with
        | none => simp [seenW, seens, q2, q3, R.of] at h; exact h.elim
        | some y =>
          cases x with
          | tup xs =>
            cases y with
            | tup ys =>
              rw [show seenW 4 [b, d] = some ([b, d], zipD xs ys) by simp [seenW, seens, q2, q3, walk, zipS]] at h
              obtain ⟨a, as, ea, sq, w1, w2⟩ := stT_of r1 bv q2
              obtain ⟨a', as', ea', sq', w1', w2'⟩ := stT_of r1 dv q3
              exact ⟨a, a', as, as', by rw [ea, ea'], .inr ⟨sq, sq', h F1 H1 _ e1 r1 ⟨wk_zp (Sq := fun H => SqT X.K H a) (Sr := fun H => SqT X.K H a') (fun _ _ p => p.2) w1 w1' rfl rfl rfl, fun z => wk_zp (Sq := fun H => SqT X.K H a) (Sr := fun H => SqT X.K H a') (fun _ _ p => p.2) (w2 (frzs2 z).1) (w2' (frzs2 z).2) rfl rfl rfl⟩⟩⟩
            | _ => simp [seenW, seens, q2, q3, walk, zipS, R.of] at h; exact h.elim
          | lst xs =>
            cases y with
            | lst ys =>
              rw [show seenW 4 [b, d] = some ([b, d], zipD xs ys) by simp [seenW, seens, q2, q3, walk, zipS]] at h
              obtain ⟨a, as, ea, sq, w1, w2⟩ := stL_of nb r1 bv q2
              obtain ⟨a', as', ea', sq', w1', w2'⟩ := stL_of nd r1 dv q3
              exact ⟨a, a', as, as', by rw [ea, ea'], .inl ⟨sq, sq', h F1 H1 _ e1 r1 ⟨wk_zp (Sq := fun H => SqL X.K H a) (Sr := fun H => SqL X.K H a') (fun _ _ p => p.2) w1 w1' rfl rfl rfl, fun z => wk_zp (Sq := fun H => SqL X.K H a) (Sr := fun H => SqL X.K H a') (fun _ _ p => p.2) (w2 (frzs2 z).1) (w2' (frzs2 z).2) rfl rfl rfl⟩⟩⟩
            | _ => simp [seenW, seens, q2, q3, walk, zipS, R.of] at h; exact h.elim
          | _ => simp [seenW, seens, q2, q3, walk, zipS, R.of] at h; exact h.elim
/-! ### comprehensions -/
theorem Rel.put {p : Addr} {o : HO} (r : Rel K F μ S H) (hF : F p = none) (hm : p ∉ μ) (hl : ∀ u, H p = some u → ∃ xs, u = .lst xs) : Rel K F μ S (upd H p o) := by
  refine ⟨fun a u e => ?_, r.len, r.nd, fun k a xs e1 e2 => ?_, r.dis, r.ft, tabs_upd r.tab hl⟩
  · have q : a ≠ p := fun z => by rw [z, hF] at e; cases e
    rw [upd_ne q]; exact r.sub a u e
  · obtain ⟨vs, h1, h2⟩ := r.obj k a xs e1 e2
    have q : a ≠ p := fun z => hm (by rw [← z]; exact List.mem_of_getElem? e1)
    exact ⟨vs, by rw [upd_ne q]; exact h1, h2⟩
theorem isLst {H : Hp} {p : Addr} {xs : List V} (h : H p = some (.lst xs)) : ∀ u, H p = some u → ∃ ys, u = .lst ys := fun u e => by rw [h] at e; cases e; exact ⟨xs, rfl⟩
theorem Ext.put {p : Addr} {o : HO} {F' H' : Hp} (x : Ext μ F H F' H') (hp : Gone H p) (no : NT o) : Ext μ F H F' (upd H' p o) := by
  refine ⟨x.fs, x.fn, fun a u e n m => ?_, fun a e => gone_upd (x.live a e) no⟩
  rw [upd_ne (goneNe (lv e n) hp)]; exact x.keep a u e n m
theorem ev_comp {kind : Nat} {its : List CE} {tg : Tg} {own : List Nat} {conds : List CE} {elt : CE} {s : Store} :
    ev G (.comp kind its tg own conds elt) ρ s = (wkM G kind its ρ s).bind fun p s => (compL (turnC G tg own conds elt ρ) p.2 [] s).bind fun ys s => .ok (.own (.lst ys)) s := by
  rw [ev]
  unfold wkM
  cases evl G its ρ s with
  | bad => rfl
  | ex c p s1 => rfl
  | ok bs s1 =>
    simp only [R.bind, seenW]
    cases (seens bs).bind (walk kind) with
    | none => rfl
    | some xs => rfl
def WF0 : WX := fun _ _ _ _ => False
theorem compL_nx (f : D → Store → R (Option D)) : ∀ (xs acc : List D) (S : Store), ∀ c p s', compL f xs acc S ≠ .ex c p s' := by
  intro xs
  induction xs with
  | nil => intro acc S c p s' e; rw [compL] at e; cases e
  | cons x xs ih =>
    intro acc S c p s' e
    rw [compL] at e
    split at e
    · split at e
      · exact ih _ _ _ _ _ e
      · cases e
    · exact ih _ _ _ _ _ e
    · cases e
theorem comp_rd {kind : Nat} {its : List CE} {tg : Tg} {own : List Nat} {conds : List CE} {elt : CE} {Q : VK} (hsl : ∀ i ∈ tg.slots, i ∈ own) (h : tM K xc W (ev G (.comp kind its tg own conds elt)) σ H Q) :
    tLc (tMI K xc W (wkM G kind its)) (gOf K tg) (tMT K xc WF0 (evConds G conds)) (tM K xc WF0 (ev G elt)) own σ H Q := by
  obtain ⟨F, μ, S, ρ, rel, er, h⟩ := h
  rw [ev_comp] at h
  refine ⟨F, μ, S, ρ, rel, er, ?_⟩
  cases q : wkM G kind its ρ S with
  | bad => rw [q] at h; exact h.elim
  | ex c p S1 => rw [q] at h; exact h
  | ok p S1 =>
  obtain ⟨bs, xs⟩ := p
  rw [q] at h
  have h : okE K xc μ W F H σ ((compL (turnC G tg own conds elt ρ) xs [] S1).bind fun ys s => .ok (.own (.lst ys)) s) Q := h
  intro F1 H1 J e1 r1 wk D hD
  have wk := wk.1
  have nx := compL_nx (turnC G tg own conds elt ρ)
  cases qc : compL (turnC G tg own conds elt ρ) xs [] S1 with
  | bad => rw [qc] at h; exact h.elim
  | ex c p s' => exact absurd qc (nx _ _ _ _ _ _)
  | ok ys S2 =>
  rw [qc] at h
  have h : okE K xc μ W F H σ (.ok (.own (.lst ys)) S2) Q := h
  obtain ⟨o1, o2⟩ := r1.out (.of hD)
  refine ⟨fun i m H2 => m = xs.length - i ∧ i ≤ xs.length ∧ ∃ F2 Sx acc vs, Rel K F2 μ Sx H2 ∧ Ext μ F1 H1 F2 H2 ∧ H2 D = some (.lst vs) ∧ RpL K F2 vs acc ∧ F2 D = none ∧ compL (turnC G tg own conds elt ρ) (xs.drop i) acc Sx = .ok ys S2,
    ⟨_, rfl, Nat.zero_le _, F1, S1, [], [], r1.newOwn hD, Ext.newOwn hD nt_lst, upd_same, .nil, o1, qc⟩, ?_⟩
  rintro i m H2 ⟨rfl, hi, F2, Sx, acc, vs, r2, e2, h2, a2, n2, q2⟩
  by_cases hlt : i < xs.length
  · refine .inr ⟨wk.go i F2 H2 ⟨e2, r2.sub⟩ hlt, _, fun H' p => ⟨xs.length - (i + 1), by omega, rfl, hlt, p⟩, fun x H' y => ?_⟩
    obtain ⟨F2', nw, d, hd, rx⟩ := wk.yld i F2 H2 x H' ⟨e2, r2.sub⟩ y hlt
    have x2 := nw.ext (μ := μ) r2.sub
    replace r2 := nw.rel r2
    replace n2 := nw.non h2 n2
    replace h2 := nw.keep h2
    replace a2 := a2.mono x2.fs
    replace e2 := e2.trans x2
    have ed : xs.drop i = d :: xs.drop (i + 1) := by
      rw [List.drop_eq_getElem_cons hlt]
      rw [List.getElem?_eq_getElem hlt] at hd
      cases hd
      rfl
    rw [ed, compL] at q2
    cases qb : bindT tg d (wipe ρ own) with
    | none => simp [turnC, qb] at q2
    | some ρ' =>
    have qt : turnC G tg own conds elt ρ d Sx = (evConds G conds ρ' Sx).bind fun k s => if k then (ev G elt ρ' s).bind fun b s => .of (b.frz.map some) s else .ok none s := by simp [turnC, qb]
    rw [qt] at q2
    refine bindT_ok tg qb r2.sub rx ((er.step (e1.trans e2)).wipe own) fun σ' er' w _ => ⟨(w own hsl).trans wipe_wipe, F2', μ, Sx, ρ', r2, er', ?_⟩
    cases qk : evConds G conds ρ' Sx with
    | bad => rw [qk] at q2; cases q2
    | ex c p s1 => rw [qk] at q2; cases q2
    | ok k S3 =>
    rw [qk] at q2
    intro F3 H3 e3 r3
    have h3 := e3.keep D _ h2 (fun _ z => by cases z) o2
    have n3 : F3 D = none := (e3.fn D (lvL h2)).trans n2
    cases k with
    | false =>
      rw [if_neg (by decide)]
      exact ⟨F3, S3, acc, vs, r3, e2.trans e3, h3, a2.mono e3.fs, n3, q2⟩
    | true =>
      rw [if_pos rfl]
      refine ⟨F3, μ, S3, ρ', r3, er'.step e3, ?_⟩
      cases qe : ev G elt ρ' S3 with
      | bad => simp [R.bind, qe] at q2
      | ex c p s1 => simp [R.bind, qe] at q2
      | ok b S4 =>
      cases qf : b.frz with
      | none => simp [R.bind, qe, qf, R.of] at q2
      | some d' =>
      simp only [R.bind, qe, qf, R.of, Option.map_some, if_true] at q2
      have hln : acc.length < line := Decidable.byContradiction fun z => by rw [if_neg z] at q2; cases q2
      rw [if_pos hln] at q2
      refine okE_still ?_
      intro F4 H4 v e4 r4 bv _
      have eb : b.still = .t d' := still_frz qf
      rw [eb] at bv
      have h4 := e4.keep D _ h3 (fun _ z => by cases z) o2
      have n4 : F4 D = none := (e4.fn D (lvL h3)).trans n3
      refine ⟨vs, h4, by rw [a2.length, ← line_eq]; exact hln, F4, S4, acc ++ [d'], vs ++ [v], r4.put n4 o2 (isLst h4), ((e2.trans e3).trans e4).put (.of hD) nt_lst, upd_same, ((a2.mono e3.fs).mono e4.fs).append (.cons bv .nil), n4, q2⟩
  · have e : i = xs.length := by omega
    subst e
    refine .inl ⟨wk.stop F2 H2 ⟨e2, r2.sub⟩, ?_⟩
    rw [List.drop_length, compL] at q2
    cases q2
    refine h F2 H2 _ (e1.trans e2) r2 ⟨D, vs, _, rfl, rfl, h2, a2, n2, o2⟩ fun a ea => ?_
    cases ea
    exact e1.back (.of hD)
theorem r_comp {tg iter elt : Expr} {ifs : List Expr} {scope : Scope} {own : List (Str × Nat)} {pos : Pos} {kind : Nat} {its : List CE} {tgc : Tg} {ownc : List Nat} {conds : List CE} {celt : CE} (hc : X.calm = true) (hN : X.N.Nodup)
    (hi : PI X tg iter (tMI X.K xc W (wkM G kind its))) (ok : BlkOk X.N X.env.scope scope own) (ho : own.map (·.2) = ownc) (hsl : ∀ i ∈ tgc.slots, i ∈ ownc)
    (hg : ∀ (s : Shared) (H : Hp) (C : Addr) (cl : List (Str × Addr)) (fp : List Addr), PG (X.blk s H scope (compEnvC scope cl C X.env) fp) tg (gOf X.K tgc))
    (ht : ∀ (s : Shared) (H : Hp) (C : Addr) (cl : List (Str × Addr)) (fp : List Addr), PTs (X.blk s H scope (compEnvC scope cl C X.env) fp) ifs (tMT X.K xc WF0 (evConds G conds)))
    (he : ∀ (s : Shared) (H : Hp) (C : Addr) (cl : List (Str × Addr)) (fp : List Addr), PE (X.blk s H scope (compEnvC scope cl C X.env) fp) elt (tM X.K xc WF0 (ev G celt)))
    (hs : ∀ x, foldedSetIterable iter X.env x = pure x) : PE X (.ListComp elt [⟨tg, iter, ifs, 0⟩] scope pos) (tM X.K xc W (ev G (.comp kind its tgc ownc conds celt))) :=
  PE.weak (pe_lc hc hN hi ok hg ht he hs) fun σ H Q q => by
    rw [ho]
    exact comp_rd hsl q
theorem ts_nil : PTs X [] (tMT X.K xc W (evConds G [])) := ⟨fun pins s σ H Q I ⟨F, μ, S, ρ, rel, er, h⟩ => pts_nil.run pins s σ H Q I (h F H (Ext.refl _ _ _) rel)⟩
theorem ts_one {e : Expr} {c : CE} (h : PT X e (tMT X.K xc W (evT G c))) : PTs X [e] (tMT X.K xc W (evConds G [c])) := ⟨fun pins s σ H Q I ⟨F, μ, S, ρ, rel, er, q⟩ => (pts_one h).run pins s σ H Q I ⟨F, μ, S, ρ, rel, er, by
  have e : evConds G [c] ρ S = evT G c ρ S := by
    unfold evT
    rw [evConds]
    cases ev G c ρ S with
    | ok x s =>
      simp only [R.bind]
      cases truB x s with
      | none => rfl
      | some k => cases k <;> simp [R.of, evConds]
    | ex c p s => rfl
    | bad => rfl
  rw [← e]
  exact q⟩⟩
end
end Zw
set_option Elab.async false
set_option linter.all false
set_option maxRecDepth 100000
/-! Zw7: statements. -/
namespace Zw
open PySem PySem.Spec PyProof.Rows L2
/-- the state within a def that was entered at F0, μ0, H0 -/
structure SR (K : PySem.W.Frag) (F0 : Hp) (μ0 : List Addr) (H0 F : Hp) (μ : List Addr) (S : Store) (H : Hp) (ρ : Env) (σ : L2.St) : Prop where
  rel : Rel K F μ S H
  er : ER K F μ H ρ σ
  ext : Ext μ0 F0 H0 F H
  pre : ∃ ν, μ = μ0 ++ ν ∧ ∀ a ∈ ν, Gone H0 a
  own : ∀ (i : Nat) (d : D) (a : Addr), ρ[i]? = some (some (B.own d)) → σ[i]? = some (some (V.ref a)) → Gone H0 a
def okSt (K : PySem.W.Frag) (xc : Nat → Option XCls) (F0 : Hp) (μ0 : List Addr) (H0 : Hp) (W : WX) (D : Ends) (r : RS) : Prop := match r with
  | .nx ρ' S' => ∀ F' μ' H' σ', SR K F0 μ0 H0 F' μ' S' H' ρ' σ' → D.nx σ' H'
  | .bk ρ' S' => ∀ F' μ' H' σ', SR K F0 μ0 H0 F' μ' S' H' ρ' σ' → D.bk σ' H'
  | .ct ρ' S' => ∀ F' μ' H' σ', SR K F0 μ0 H0 F' μ' S' H' ρ' σ' → D.ct σ' H'
  | .rt b S' => ∀ F' μ' H' v, Rel K F' μ' S' H' → Ext μ0 F0 H0 F' H' → (∃ ν, μ' = μ0 ++ ν ∧ ∀ a ∈ ν, Gone H0 a) → BRp K F' μ' H' v b → Fresh H0 v b → b.give = some b → D.rt v H'
  | .ex c p ρ' S' => ∀ F' μ' H' σ' cls d, SR K F0 μ0 H0 F' μ' S' H' ρ' σ' → XR K xc F' H' c p cls d → W cls d σ' H'
  | .bad => False
def tMS (K : PySem.W.Frag) (xc : Nat → Option XCls) (W : WX) (m : Env → Store → RS) : TS := fun D σ H =>
  ∃ F0 μ0 H0 F μ S ρ, SR K F0 μ0 H0 F μ S H ρ σ ∧ okSt K xc F0 μ0 H0 W D (m ρ S)
section
variable {X : Cx} {K : PySem.W.Frag} {xc : Nat → Option XCls} {W : WX} {F0 F H0 H F1 H1 : Hp} {μ0 μ : List Addr} {S S1 : Store} {σ : L2.St} {ρ : Env} {G : Gx} {D : Ends}
theorem Ext.under (x : Ext μ0 F0 H0 F H) (p : ∃ ν, μ = μ0 ++ ν ∧ ∀ a ∈ ν, Gone H0 a) (y : Ext μ F H F1 H1) : Ext μ0 F0 H0 F1 H1 := by
  obtain ⟨ν, rfl, hν⟩ := p
  refine ⟨fun a o h => y.fs a o (x.fs a o h), fun a h => (y.fn a (x.live a h)).trans (x.fn a h), fun a o h n m => y.keep a o (x.keep a o h n m) n fun z => ?_, fun a h => y.live a (x.live a h)⟩
  rcases List.mem_append.mp z with z | z
  · exact m z
  · exact hν a z o h n
theorem SR.step (s : SR K F0 μ0 H0 F μ S H ρ σ) (e : Ext μ F H F1 H1) (r : Rel K F1 μ S1 H1) : SR K F0 μ0 H0 F1 μ S1 H1 ρ σ :=
  ⟨r, s.er.step e, s.ext.under s.pre e, s.pre, s.own⟩
/-! ### an expression within a statement -/
theorem toE {r : R B} {g : B → Store → RS} {Q : VK} (s : SR K F0 μ0 H0 F μ S H ρ σ) (h : okSt K xc F0 μ0 H0 W D (r.to ρ g))
    (k : ∀ F1 H1 v b S1, Ext μ F H F1 H1 → SR K F0 μ0 H0 F1 μ S1 H1 ρ σ → BRp K F1 μ H1 v b → Fresh H v b → okSt K xc F0 μ0 H0 W D (g b S1) → Q v H1) : okE K xc μ W F H σ r Q := by
  cases r with
  | ok b S1 => exact fun F1 H1 v e r1 bv fr => k F1 H1 v b S1 e (s.step e r1) bv fr h
  | ex c p S1 => exact fun F1 H1 cls d e r1 x => h F1 μ H1 σ cls d (s.step e r1) x
  | bad => exact h
/-- the same, a fresh list taken for a tree -/
theorem toEs {r : R B} {g : B → Store → RS} {Q : VK} (s : SR K F0 μ0 H0 F μ S H ρ σ) (h : okSt K xc F0 μ0 H0 W D (r.to ρ g))
    (k : ∀ F1 H1 v b S1, Ext μ F H F1 H1 → SR K F0 μ0 H0 F1 μ S1 H1 ρ σ → BRp K F1 μ H1 v b.still → okSt K xc F0 μ0 H0 W D (g b S1) → Q v H1) : okE K xc μ W F H σ r Q := by
  refine okE_still ?_
  cases r with
  | ok b S1 => exact fun F1 H1 v e r1 bv fr => k F1 H1 v b S1 e (s.step e r1) bv h
  | ex c p S1 => exact fun F1 H1 cls d e r1 x => h F1 μ H1 σ cls d (s.step e r1) x
  | bad => exact h
theorem toT {r : R Bool} {g : Bool → Store → RS} {Q : Bool → Hp → Prop} (s : SR K F0 μ0 H0 F μ S H ρ σ) (h : okSt K xc F0 μ0 H0 W D (r.to ρ g))
    (k : ∀ F1 H1 b S1, SR K F0 μ0 H0 F1 μ S1 H1 ρ σ → okSt K xc F0 μ0 H0 W D (g b S1) → Q b H1) : okT K xc μ W F H σ r Q := by
  cases r with
  | ok b S1 => exact fun F1 H1 e r1 => k F1 H1 b S1 (s.step e r1) h
  | ex c p S1 => exact fun F1 H1 cls d e r1 x => h F1 μ H1 σ cls d (s.step e r1) x
  | bad => exact h
/-! ### slots -/
theorem ER.setB (er : ER K F μ H ρ σ) {i : Nat} {v : V} {b : B} (h : BRp K F μ H v b) (hb : b.give = some b)
    (hs : ∀ (d : Zw.D) (a : Addr), b = .own d → v = .ref a → ∀ (j : Nat) (d' : Zw.D), (ρ[j]? = some (some (B.own d')) ∨ ρ[j]? = some (some (B.bor d'))) → σ[j]? ≠ some (some (V.ref a))) : ER K F μ H (ρ.set i (some b)) (σ.set i (some v)) := by
  have hl := er.len
  have gs : ∀ (j : Nat) (c : B), (ρ.set i (some b))[j]? = some (some c) → (j = i ∧ c = b ∧ i < ρ.length) ∨ (j ≠ i ∧ ρ[j]? = some (some c)) := fun j c e => by
    by_cases q : j = i
    · subst q
      by_cases l : j < ρ.length
      · rw [List.getElem?_set_self l] at e
        cases e
        exact .inl ⟨rfl, rfl, l⟩
      · rw [List.getElem?_eq_none (by simpa using l)] at e; cases e
    · rw [List.getElem?_set_ne (Ne.symm q)] at e
      exact .inr ⟨q, e⟩
  refine ⟨by simpa using hl, fun j c e => ?_, fun j k d1 d2 a n e1 e2 e3 => ?_⟩
  · rcases gs j c e with ⟨q, e2, l⟩ | ⟨q, e2⟩
    · subst q e2
      exact ⟨v, List.getElem?_set_self (by omega), h⟩
    · obtain ⟨w, h1, h2⟩ := er.val j c e2
      exact ⟨w, by rw [List.getElem?_set_ne (Ne.symm q)]; exact h1, h2⟩
  · have g2 : (k = i ∧ b = .own d2) ∨ (k ≠ i ∧ (ρ[k]? = some (some (.own d2)) ∨ ρ[k]? = some (some (.bor d2)))) := by
      rcases e2 with e2 | e2
      · rcases gs k _ e2 with ⟨q, e2, _⟩ | x
        · exact .inl ⟨q, e2.symm⟩
        · exact .inr ⟨x.1, .inl x.2⟩
      · rcases gs k _ e2 with ⟨q, e2, _⟩ | x
        · rw [← e2] at hb; cases hb
        · exact .inr ⟨x.1, .inr x.2⟩
    rcases gs j _ e1 with ⟨qj, eb, lj⟩ | ⟨qj, ej⟩
    · rcases g2 with ⟨qk, _⟩ | ⟨qk, ek⟩
      · exact absurd (qj.trans qk.symm) n
      · rw [qj, List.getElem?_set_self (by omega)] at e3
        cases e3
        rw [List.getElem?_set_ne (Ne.symm qk)]
        exact hs d1 a eb.symm rfl k d2 ek
    · rw [List.getElem?_set_ne (Ne.symm qj)] at e3
      rcases g2 with ⟨qk, eb⟩ | ⟨qk, ek⟩
      · rw [qk]
        intro z
        by_cases l : i < σ.length
        · rw [List.getElem?_set_self l] at z
          cases z
          exact hs d2 a eb rfl j d1 (.inl ej) e3
        · rw [List.getElem?_eq_none (by simpa using l)] at z; cases z
      · rw [List.getElem?_set_ne (Ne.symm qk)]
        exact er.sep j k d1 d2 a n ej ek e3
theorem SR.setB (s : SR K F0 μ0 H0 F μ S H ρ σ) {i : Nat} {v : V} {b : B} (h : BRp K F μ H v b) (hb : b.give = some b)
    (hs : ∀ (d : Zw.D) (a : Addr), b = .own d → v = .ref a → Gone H0 a ∧ ∀ (j : Nat) (d' : Zw.D), (ρ[j]? = some (some (B.own d')) ∨ ρ[j]? = some (some (B.bor d'))) → σ[j]? ≠ some (some (V.ref a))) : SR K F0 μ0 H0 F μ S H (ρ.set i (some b)) (σ.set i (some v)) := by
  refine ⟨s.rel, s.er.setB h hb fun d a e1 e2 => (hs d a e1 e2).2, s.ext, s.pre, fun j d a e1 e2 => ?_⟩
  by_cases q : j = i
  · subst q
    by_cases l : j < ρ.length
    · rw [List.getElem?_set_self l] at e1
      rw [List.getElem?_set_self (by rw [← s.er.len]; exact l)] at e2
      cases e1
      cases e2
      exact (hs d a rfl rfl).1
    · rw [List.getElem?_eq_none (by simpa using l)] at e1; cases e1
  · rw [List.getElem?_set_ne (Ne.symm q)] at e1 e2
    exact s.own j d a e1 e2
/-- own and borrowed lists lie in the heap -/
theorem ER.live (er : ER K F μ H ρ σ) {j : Nat} {d : Zw.D} {a : Addr} (e : ρ[j]? = some (some (B.own d)) ∨ ρ[j]? = some (some (B.bor d))) (h : σ[j]? = some (some (V.ref a))) : ¬ Gone H a := by
  have : ∃ v, σ[j]? = some (some v) ∧ OwnAt K F μ H v d := by
    rcases e with e | e
    · exact er.val j _ e
    · exact er.val j _ e
  obtain ⟨v, h1, c, xs, ds, e1, _, h2, _⟩ := this
  rw [h] at h1
  cases h1
  cases e1
  exact lvL h2
theorem give_eq {b c : B} (h : b.give = some c) : c = b ∧ b.give = some b := by
  cases b with
  | t d => cases h; exact ⟨rfl, rfl⟩
  | own d => cases h; exact ⟨rfl, rfl⟩
  | bor d => cases h
  | sc d => cases h
  | r k => cases h
theorem SR.fresh (s : SR K F0 μ0 H0 F μ S H ρ σ) {v : V} {b : B} (fr : Fresh H v b) : ∀ (d : Zw.D) (a : Addr), b = .own d → v = .ref a → Gone H0 a ∧ ∀ (j : Nat) (d' : Zw.D), (ρ[j]? = some (some (B.own d')) ∨ ρ[j]? = some (some (B.bor d'))) → σ[j]? ≠ some (some (V.ref a)) := by
  intro d a e1 e2
  subst e1
  have hn : Gone H a := fr a e2
  exact ⟨s.ext.back hn, fun j d' e3 e4 => s.er.live e3 e4 hn⟩
/-- as trees alone -/
theorem SR.bind {tg : Tg} {d : Zw.D} {v : V} {ρ' : Env} {Q : L2.St → Hp → Prop} (s : SR K F0 μ0 H0 F μ S H ρ σ) (h : bindT tg d ρ = some ρ') (r : Rp K F v d) (k : ∀ σ', SR K F0 μ0 H0 F μ S H ρ' σ' → Q σ' H) : gOf K tg v σ H Q :=
  bindT_ok tg h s.rel.sub r s.er fun σ' er' _ o => k σ' ⟨s.rel, er', s.ext, s.pre, fun i d a e1 e2 => by
    obtain ⟨h1, h2⟩ := o i d e1
    exact s.own i d a h1 (by rw [← h2]; exact e2)⟩
/-! ### small statements -/
theorem s_pass {pos : Pos} : PS X (.Pass pos) (tMS X.K xc W (exec G .pass)) := PS.weak ps_pass fun D σ H ⟨F0, μ0, H0, F, μ, S, ρ, s, h⟩ => by
  rw [exec] at h
  exact h F μ H σ s
theorem s_brk {pos : Pos} : PS X (.Break pos) (tMS X.K xc W (exec G .brk)) := PS.weak ps_break fun D σ H ⟨F0, μ0, H0, F, μ, S, ρ, s, h⟩ => by
  rw [exec] at h
  exact h F μ H σ s
theorem s_cont {pos : Pos} : PS X (.Continue pos) (tMS X.K xc W (exec G .cont)) := PS.weak ps_continue fun D σ H ⟨F0, μ0, H0, F, μ, S, ρ, s, h⟩ => by
  rw [exec] at h
  exact h F μ H σ s
theorem s_never {st : Stmt} : PS X st (tMS X.K xc W (exec G .never)) := PS.weak ps_never fun D σ H ⟨F0, μ0, H0, F, μ, S, ρ, s, h⟩ => by
  rw [exec] at h
  exact h
theorem s_expr {e : Expr} {c : CE} {pos : Pos} (he : PE X e (tM X.K xc W (ev G c))) (hs : swapsWith e none pos.line X.env = pure false) : PS X (.Expr e pos) (tMS X.K xc W (exec G (.expr c))) :=
  PS.weak (ps_expr he hs) fun D σ H ⟨F0, μ0, H0, F, μ, S, ρ, s, h⟩ => ⟨F, μ, S, ρ, s.rel, s.er, toE (g := fun _ s => .nx ρ s) s (by rw [exec] at h; exact h) fun F1 H1 v b S1 e1 s1 bv fr h1 => h1 F1 μ H1 σ s1⟩
theorem asg_rd {i : Nat} {c : CE} {σ : L2.St} {H : Hp} (h : tMS K xc W (exec G (.asg i c)) D σ H) : tAsg (tM K xc W (ev G c)) (gName i) D σ H := by
  obtain ⟨F0, μ0, H0, F, μ, S, ρ, s, h⟩ := h
  refine ⟨F, μ, S, ρ, s.rel, s.er, toE s (by rw [exec] at h; exact h) fun F1 H1 v b S1 e1 s1 bv fr h1 => ?_⟩
  cases q : b.give with
  | none => rw [q] at h1; exact h1.elim
  | some c =>
    rw [q] at h1
    obtain ⟨rfl, hb⟩ := give_eq q
    have hs := s.fresh fr
    exact h1 F1 μ H1 _ (s1.setB bv hb hs)
theorem s_asg {i : Nat} {x : Str} {e : Expr} {c : CE} {pos pos' : Pos} (hN : X.N.Nodup) (hi : X.N[i]? = some x) (hx : Loc X.env.scope x) (he : PE X e (tM X.K xc W (ev G c))) (hs : swapsWith e (some (.Name x pos')) pos.line X.env = pure false)
    (hf : X.fn x = true ∨ X.env.scope.names.lookup x = some .local) : PS X (.Assign [.Name x pos'] e pos) (tMS X.K xc W (exec G (.asg i c))) :=
  PS.weak (ps_set hN hi hx he hs hf) fun D σ H h => asg_rd h
theorem frz_still {b : B} {d : Zw.D} (h : b.frz = some d) {v : V} (bv : BRp K F μ H v b.still) : Rp K F v d := by rw [still_frz h] at bv; exact bv
theorem s_asgT {tg e : Expr} {t : Tg} {c : CE} {pos : Pos} (he : PE X e (tM X.K xc W (ev G c))) (hg : PG X tg (gOf X.K t)) (hs : swapsWithSole [tg] e pos.line X.env = pure false) (hw : swappedStores [tg] e X.env = pure none)
    (h1 : (assignEach [tg] X.env).map (·.2) = [assign tg X.env]) : PS X (.Assign [tg] e pos) (tMS X.K xc W (exec G (.asgT t c))) :=
  PS.weak (ps_asg he hg hs hw h1) fun D σ H ⟨F0, μ0, H0, F, μ, S, ρ, s, h⟩ => by
    refine ⟨F, μ, S, ρ, s.rel, s.er, toEs s (by rw [exec] at h; exact h) fun F1 H1 v b S1 e1 s1 bv h1 => ?_⟩
    cases q : b.frz with
    | none => rw [q] at h1; exact h1.elim
    | some d =>
      rw [q] at h1
      have h1 : okSt X.K xc F0 μ0 H0 W D (match bindT t d ρ with | some ρ' => .nx ρ' S1 | none => .bad) := h1
      cases q2 : bindT t d ρ with
      | none => rw [q2] at h1; exact h1.elim
      | some ρ' =>
        rw [q2] at h1
        exact s1.bind q2 (frz_still q bv) fun σ' s' => h1 F1 μ H1 σ' s'
theorem s_retN {pos : Pos} : PS X (.Return none pos) (tMS X.K xc W (exec G .retN)) := PS.weak ps_retN fun D σ H ⟨F0, μ0, H0, F, μ, S, ρ, s, h⟩ => by
  rw [exec] at h
  exact h F μ H .non s.rel s.ext s.pre .non trivial rfl
theorem s_retV {i : Nat} {e : Expr} {pos : Pos} (he : PE X e (tVar i)) : PS X (.Return (some e) pos) (tMS X.K xc W (exec G (.ret (.var i)))) := PS.weak (ps_ret he) fun D σ H ⟨F0, μ0, H0, F, μ, S, ρ, s, h⟩ => by
  rw [exec] at h
  cases q : ρ[i]? with
  | none => rw [q] at h; exact h.elim
  | some o => cases o with
    | none => rw [q] at h; exact h.elim
    | some b =>
      rw [q] at h
      obtain ⟨v, h1, h2⟩ := s.er.val i b q
      refine ⟨v, h1, ?_⟩
      have h' : okSt X.K xc F0 μ0 H0 W D (match b.give with | some b => .rt b S | none => .bad) := h
      cases q2 : b.give with
      | none => rw [q2] at h'; exact h'.elim
      | some c =>
        rw [q2] at h'
        obtain ⟨rfl, hb⟩ := give_eq q2
        refine h' F μ H v s.rel s.ext s.pre h2 ?_ hb
        cases c with
        | own d => exact fun a e => s.own i d a q (by rw [h1, e])
        | t d => trivial
        | _ => cases hb
/-! an owned list stands still -/
theorem SR.frz (s : SR K F0 μ0 H0 F μ S H ρ σ) {i : Nat} {b : B} (hi : ρ[i]? = some (some b)) : ∃ F', SR K F0 μ0 H0 F' μ S H (ρ.set i (some b.still)) σ ∧ Same F F' := by
  have hσ : ∀ {v : V}, σ[i]? = some (some v) → σ.set i (some v) = σ := fun {v} e => by
    refine List.ext_getElem? fun j => ?_
    by_cases q : j = i
    · subst q
      rw [List.getElem?_set_self (List.getElem?_eq_some_iff.mp e).1, e]
    · rw [List.getElem?_set_ne (Ne.symm q)]
  obtain ⟨v, h1, h2⟩ := s.er.val i b hi
  have plain : b.still = b → ∃ F', SR K F0 μ0 H0 F' μ S H (ρ.set i (some b.still)) σ ∧ Same F F' := fun e => by
    refine ⟨F, ?_, fun _ _ h => h⟩
    rw [e, show ρ.set i (some b) = ρ from List.ext_getElem? fun j => by
      by_cases q : j = i
      · subst q
        rw [List.getElem?_set_self (List.getElem?_eq_some_iff.mp hi).1, hi]
      · rw [List.getElem?_set_ne (Ne.symm q)]]
    exact s
  cases b with
  | t d => exact plain rfl
  | bor d => exact plain rfl
  | sc d => exact plain rfl
  | r k => exact plain rfl
  | own d =>
    obtain ⟨a, xs, ds, e1, e2, ha, rs, n, m⟩ := h2
    subst e1 e2
    have h0 := s.own i _ a hi h1
    have sF : Same F (upd F a (.lst xs)) := fun b o e => by
      have q : b ≠ a := fun z => by rw [z, n] at e; cases e
      rw [upd_ne q]; exact e
    have r' := s.rel.still ha n m
    refine ⟨_, ?_, sF⟩
    have gs : ∀ (j : Nat) (c : B), (ρ.set i (some (B.own (.lst ds)).still))[j]? = some (some c) → (j = i ∧ c = .t (.lst ds)) ∨ (j ≠ i ∧ ρ[j]? = some (some c)) := fun j c e => by
      by_cases q : j = i
      · subst q
        rw [List.getElem?_set_self (List.getElem?_eq_some_iff.mp hi).1] at e
        cases e
        exact .inl ⟨rfl, rfl⟩
      · rw [List.getElem?_set_ne (Ne.symm q)] at e
        exact .inr ⟨q, e⟩
    have own' : ∀ (j : Nat) (w : V) (d : Zw.D), j ≠ i → (ρ[j]? = some (some (B.own d)) ∨ ρ[j]? = some (some (B.bor d))) → σ[j]? = some (some w) → OwnAt K F μ H w d → OwnAt K (upd F a (.lst xs)) μ H w d := fun j w d q ej hw ⟨c, ys, es, e1, e2, hc, rc, nc, mc⟩ => by
      have qa : c ≠ a := fun z => by
        subst e1 z
        exact s.er.sep i j _ d c (Ne.symm q) hi ej h1 hw
      exact ⟨c, ys, es, e1, e2, hc, rc.mono sF, by rw [upd_ne qa]; exact nc, mc⟩
    refine ⟨r', ⟨by rw [List.length_set]; exact s.er.len, fun j c e => ?_, fun j k d1 d2 a1 nn e1 e2 e3 => ?_⟩, s.ext.still n h0, s.pre, fun j d a1 e1 e2 => ?_⟩
    · rcases gs j c e with ⟨q, e2⟩ | ⟨q, e2⟩
      · subst q e2
        exact ⟨_, h1, .lst upd_same (rs.mono sF)⟩
      · obtain ⟨w, hw, bw⟩ := s.er.val j c e2
        refine ⟨w, hw, ?_⟩
        cases c with
        | t d => exact Rp.mono sF bw
        | own d => exact own' j w d q (.inl e2) hw bw
        | bor d => exact own' j w d q (.inr e2) hw bw
        | sc d => obtain ⟨c, ys, es, e1, e2, hc, rc⟩ := bw; exact ⟨c, ys, es, e1, e2, hc, rc.mono sF⟩
        | r k => exact bw
    · rcases gs j _ e1 with ⟨_, z⟩ | ⟨_, e1⟩
      · cases z
      · refine s.er.sep j k d1 d2 a1 nn e1 ?_ e3
        rcases e2 with e2 | e2
        · rcases gs k _ e2 with ⟨_, z⟩ | ⟨_, e2⟩
          · cases z
          · exact .inl e2
        · rcases gs k _ e2 with ⟨_, z⟩ | ⟨_, e2⟩
          · cases z
          · exact .inr e2
    · rcases gs j _ e1 with ⟨_, z⟩ | ⟨_, e1⟩
      · cases z
      · exact s.own j d a1 e1 e2
theorem SR.still (s : SR K F0 μ0 H0 F μ S H ρ σ) : ∃ F', SR K F0 μ0 H0 F' μ S H (Zw.still ρ) σ ∧ Same F F' := by
  have go : ∀ n, n ≤ ρ.length → ∃ F', SR K F0 μ0 H0 F' μ S H ((Zw.still ρ).take n ++ ρ.drop n) σ ∧ Same F F' := by
    intro n
    induction n with
    | zero => intro _; exact ⟨F, by simpa using s, fun _ _ h => h⟩
    | succ n ih =>
      intro hn
      obtain ⟨F', s', sF⟩ := ih (by omega)
      have hl : ((Zw.still ρ).take n).length = n := by simp [Zw.still]; omega
      have hg : ((Zw.still ρ).take n ++ ρ.drop n)[n]? = ρ[n]? := by
        rw [List.getElem?_append_right (by omega), hl, Nat.sub_self, List.getElem?_drop]
        rfl
      have he : ρ[n]? = some (ρ[n]'(by omega)) := List.getElem?_eq_getElem _
      have nxt : ∀ o, ρ[n]? = some o → (Zw.still ρ).take (n + 1) ++ ρ.drop (n + 1) = ((Zw.still ρ).take n ++ ρ.drop n).set n (o.map B.still) := fun o eo => by
        refine List.ext_getElem? fun j => ?_
        have hl2 : ((Zw.still ρ).take (n + 1)).length = n + 1 := by simp [Zw.still]; omega
        by_cases q : j = n
        · subst q
          rw [List.getElem?_set_self (by rw [List.length_append, hl, List.length_drop]; omega), List.getElem?_append_left (by omega), List.getElem?_take_of_lt (by omega)]
          unfold Zw.still
          rw [List.getElem?_map, eo]
          rfl
        · rw [List.getElem?_set_ne (Ne.symm q)]
          by_cases l : j < n
          · rw [List.getElem?_append_left (by omega), List.getElem?_append_left (by omega), List.getElem?_take_of_lt (by omega), List.getElem?_take_of_lt l]
          · rw [List.getElem?_append_right (by omega), List.getElem?_append_right (by omega), hl, hl2, List.getElem?_drop, List.getElem?_drop]
            congr 1
            omega
      cases q : ρ[n]? with
      | none => rw [q] at he; cases he
      | some o =>
        rw [nxt o q]
        cases o with
        | none =>
          refine ⟨F', ?_, sF⟩
          rw [show ((Zw.still ρ).take n ++ ρ.drop n).set n (Option.map B.still none) = (Zw.still ρ).take n ++ ρ.drop n from List.ext_getElem? fun j => by
            by_cases qj : j = n
            · subst qj
              rw [List.getElem?_set_self (by rw [List.length_append, hl, List.length_drop]; omega), hg, q]
              rfl
            · rw [List.getElem?_set_ne (Ne.symm qj)]]
          exact s'
        | some b =>
          obtain ⟨F2, s2, sF2⟩ := s'.frz (i := n) (b := b) (by rw [hg, q])
          exact ⟨F2, s2, fun a o h => sF2 a o (sF a o h)⟩
  obtain ⟨F', s', sF⟩ := go ρ.length (Nat.le_refl _)
  refine ⟨F', ?_, sF⟩
  have hl : (Zw.still ρ).length = ρ.length := by simp [Zw.still]
  rw [List.drop_length, List.append_nil, ← hl, List.take_length] at s'
  exact s'
theorem exec_ret {c : CE} (nv : ∀ i, c ≠ .var i) : exec G (.ret c) ρ S = (ev G c (Zw.still ρ) S).to (Zw.still ρ) fun b s => match b.give with
        | some b => .rt b s
        | none => .bad := by
  cases c <;> first | exact absurd rfl (nv _) | rfl
end
end Zw
set_option Elab.async false
set_option linter.all false
set_option maxRecDepth 100000
/-! Zw8: statements, second part. -/
namespace Zw
open PySem PySem.Spec PyProof.Rows L2
section
variable {X : Cx} {K : PySem.W.Frag} {xc : Nat → Option XCls} {W : WX} {F0 F H0 H F1 H1 : Hp} {μ0 μ : List Addr} {S S1 : Store} {σ : L2.St} {ρ : Env} {G : Gx} {D : Ends}
theorem s_ret {e : Expr} {c : CE} {pos : Pos} (nv : ∀ i, c ≠ .var i) (he : PE X e (tM X.K xc W (ev G c))) : PS X (.Return (some e) pos) (tMS X.K xc W (exec G (.ret c))) :=
  PS.weak (ps_ret he) fun D σ H ⟨F0, μ0, H0, F, μ, S, ρ, s, h⟩ => by
    rw [exec_ret nv] at h
    obtain ⟨F', s', sF⟩ := s.still
    refine ⟨F', μ, S, Zw.still ρ, s'.rel, s'.er, toE s' h fun F1 H1 v b S1 e1 s1 bv fr h1 => ?_⟩
    cases q : b.give with
    | none => rw [q] at h1; exact h1.elim
    | some c =>
      rw [q] at h1
      obtain ⟨rfl, hb⟩ := give_eq q
      refine h1 F1 μ H1 v s1.rel s1.ext s1.pre bv ?_ hb
      cases c with
      | own d => exact fun a e => (s'.fresh fr d a rfl e).1
      | t d => trivial
      | _ => cases hb
/-! ### if, blocks -/
theorem evT_to {c : CE} : ∀ {g : Bool → Store → RS}, (evT G c ρ S).to ρ g = (evT G c ρ S).to ρ g := rfl
theorem s_ite {c : Expr} {a b : List Stmt} {cc : CE} {ca cb : List CS} {pos : Pos} (hc : PT X c (tMT X.K xc W (evT G cc))) (ha : PSs X a (tMS X.K xc W (execs G ca))) (hb : PSs X b (tMS X.K xc W (execs G cb))) :
    PS X (.If c a b pos) (tMS X.K xc W (exec G (.ite cc ca cb))) :=
  PS.weak (ps_if hc ha hb) fun D σ H ⟨F0, μ0, H0, F, μ, S, ρ, s, h⟩ => by
    rw [exec] at h
    refine ⟨F, μ, S, ρ, s.rel, s.er, toT s h fun F1 H1 k S1 s1 h1 => ?_⟩
    cases k with
    | true => exact ⟨F0, μ0, H0, F1, μ, S1, ρ, s1, h1⟩
    | false => exact ⟨F0, μ0, H0, F1, μ, S1, ρ, s1, h1⟩
theorem ss_nil : PSs X [] (tMS X.K xc W (execs G [])) := PSs.weak pss_nil fun D σ H ⟨F0, μ0, H0, F, μ, S, ρ, s, h⟩ => by
  rw [execs] at h
  exact h F μ H σ s
theorem ss_cons {st : Stmt} {sts : List Stmt} {c : CS} {cs : List CS} (h1 : PS X st (tMS X.K xc W (exec G c))) (h2 : PSs X sts (tMS X.K xc W (execs G cs))) : PSs X (st :: sts) (tMS X.K xc W (execs G (c :: cs))) :=
  PSs.weak (pss_cons h1 h2) fun D σ H ⟨F0, μ0, H0, F, μ, S, ρ, s, h⟩ => by
    rw [execs] at h
    refine ⟨F0, μ0, H0, F, μ, S, ρ, s, ?_⟩
    cases q : exec G c ρ S with
    | nx ρ' S' => rw [q] at h; exact fun F' μ' H' σ' s' => ⟨F0, μ0, H0, F', μ', S', ρ', s', h⟩
    | bk ρ' S' => rw [q] at h; exact h
    | ct ρ' S' => rw [q] at h; exact h
    | rt b S' => rw [q] at h; exact h
    | ex c p ρ' S' => rw [q] at h; exact h
    | bad => rw [q] at h; exact h
/-- nothing is done, the rest goes on -/
theorem ss_frz {sts : List Stmt} {i : Nat} {cs : List CS} (h2 : PSs X sts (tMS X.K xc W (execs G cs))) : PSs X sts (tMS X.K xc W (execs G (.frz i :: cs))) :=
  PSs.weak h2 fun D σ H ⟨F0, μ0, H0, F, μ, S, ρ, s, h⟩ => by
    rw [execs, exec] at h
    cases q : ρ[i]? with
    | none => rw [q] at h; exact h.elim
    | some o => cases o with
      | none => rw [q] at h; exact h.elim
      | some b =>
        rw [q] at h
        obtain ⟨F', s', _⟩ := s.frz q
        exact ⟨F0, μ0, H0, F', μ, S, _, s', h⟩
theorem SR.mv (s : SR K F0 μ0 H0 F μ S H ρ σ) {i : Nat} {xs : List Zw.D} (hi : ρ[i]? = some (some (.own (.lst xs)))) : ∃ μ', SR K F0 μ0 H0 F μ' (S ++ [.lst xs]) H (ρ.set i (some (.r S.length))) σ := by
  obtain ⟨v, h1, a, vs, ds, e1, e2, ha, rs, n, m⟩ := s.er.val i _ hi
  cases e1
  cases e2
  have h0 := s.own i _ a hi h1
  have hl := s.rel.len
  refine ⟨μ ++ [a], ⟨s.rel.sub, by simp [hl], ?_, fun k b ys e1 e2 => ?_, fun b hb => ?_, s.rel.ft, s.rel.tab⟩, ⟨by rw [List.length_set]; exact s.er.len, fun j c e => ?_, fun j k d1 d2 a1 nn e1 e2 e3 => ?_⟩, s.ext, ?_, fun j d a1 e1 e2 => ?_⟩
  · refine List.nodup_append.mpr ⟨s.rel.nd, by simp, fun x hx y hy => ?_⟩
    rw [List.mem_singleton.mp hy]
    exact fun z => m (by rw [← z]; exact hx)
  · by_cases l : k < S.length
    · rw [List.getElem?_append_left (by omega)] at e1
      rw [List.getElem?_append_left l] at e2
      exact s.rel.obj k b ys e1 e2
    · have hk : k = S.length := by
        have := (List.getElem?_eq_some_iff.mp e2).1
        simp at this
        omega
      subst hk
      rw [← hl, List.getElem?_append_right (Nat.le_refl _), Nat.sub_self] at e1
      rw [List.getElem?_append_right (Nat.le_refl _), Nat.sub_self] at e2
      cases e1
      cases e2
      exact ⟨vs, ha, rs⟩
  · rcases List.mem_append.mp hb with hb | hb
    · exact s.rel.dis b hb
    · rw [List.mem_singleton.mp hb]; exact n
  · by_cases q : j = i
    · subst q
      rw [List.getElem?_set_self (List.getElem?_eq_some_iff.mp hi).1] at e
      cases e
      exact ⟨_, h1, a, rfl, by rw [← hl, List.getElem?_append_right (Nat.le_refl _), Nat.sub_self]; rfl⟩
    · rw [List.getElem?_set_ne (Ne.symm q)] at e
      obtain ⟨w, hw, bw⟩ := s.er.val j c e
      refine ⟨w, hw, ?_⟩
      have own' : ∀ (d : Zw.D), (ρ[j]? = some (some (B.own d)) ∨ ρ[j]? = some (some (B.bor d))) → OwnAt K F μ H w d → OwnAt K F (μ ++ [a]) H w d := fun d ej ⟨c, ys, es, e1, e2, hc, rc, nc, mc⟩ => by
        refine ⟨c, ys, es, e1, e2, hc, rc, nc, fun z => ?_⟩
        rcases List.mem_append.mp z with z | z
        · exact mc z
        · rw [List.mem_singleton.mp z] at e1
          subst e1
          exact s.er.sep i j _ d a (Ne.symm q) hi ej h1 hw
      cases c with
      | t d => exact bw
      | own d => exact own' d (.inl e) bw
      | bor d => exact own' d (.inr e) bw
      | sc d =>
        obtain ⟨c, ys, es, e1, e2, hc, rc⟩ := bw
        refine ⟨c, ys, es, e1, e2, hc.to fun o h mc => ⟨h, fun z => ?_⟩, rc⟩
        rcases List.mem_append.mp z with z | z
        · exact mc z
        · rw [List.mem_singleton.mp z, ha] at h
          cases h
      | r k =>
        obtain ⟨c, e1, e2⟩ := bw
        exact ⟨c, e1, by rw [List.getElem?_append_left (List.getElem?_eq_some_iff.mp e2).1]; exact e2⟩
  · have back : ∀ (j : Nat) (c : B), (ρ.set i (some (B.r S.length)))[j]? = some (some c) → (∀ k, c ≠ .r k) → ρ[j]? = some (some c) := fun j c e nr => by
      by_cases q : j = i
      · subst q
        rw [List.getElem?_set_self (List.getElem?_eq_some_iff.mp hi).1] at e
        cases e
        exact absurd rfl (nr _)
      · rw [List.getElem?_set_ne (Ne.symm q)] at e
        exact e
    refine s.er.sep j k d1 d2 a1 nn (back j _ e1 (fun _ z => by cases z)) ?_ e3
    rcases e2 with e2 | e2
    · exact .inl (back k _ e2 (fun _ z => by cases z))
    · exact .inr (back k _ e2 (fun _ z => by cases z))
  · obtain ⟨ν, e, hν⟩ := s.pre
    refine ⟨ν ++ [a], by rw [e, List.append_assoc], fun b hb => ?_⟩
    rcases List.mem_append.mp hb with hb | hb
    · exact hν b hb
    · rw [List.mem_singleton.mp hb]; exact h0
  · by_cases q : j = i
    · subst q
      rw [List.getElem?_set_self (List.getElem?_eq_some_iff.mp hi).1] at e1
      cases e1
    · rw [List.getElem?_set_ne (Ne.symm q)] at e1
      exact s.own j d a1 e1 e2
theorem ss_mv {sts : List Stmt} {i : Nat} {cs : List CS} (h2 : PSs X sts (tMS X.K xc W (execs G cs))) : PSs X sts (tMS X.K xc W (execs G (.mv i :: cs))) :=
  PSs.weak h2 fun D σ H ⟨F0, μ0, H0, F, μ, S, ρ, s, h⟩ => by
    rw [execs, exec] at h
    cases q : ρ[i]? with
    | none => rw [q] at h; exact h.elim
    | some o => cases o with
      | none => rw [q] at h; exact h.elim
      | some b => cases b with
        | own d => cases d with
          | lst xs =>
            rw [q] at h
            obtain ⟨μ', s'⟩ := s.mv q
            exact ⟨F0, μ0, H0, F, μ', _, _, s', h⟩
          | _ => rw [q] at h; exact h.elim
        | _ => rw [q] at h; exact h.elim
/-! ### loops -/
theorem Rel.cut (r : Rel K F μ S H) (n : Nat) : Rel K F (μ.take n) (S.take n) H := by
  refine ⟨r.sub, by rw [List.length_take, List.length_take, r.len], (List.take_sublist n μ).nodup r.nd, fun k a xs e1 e2 => ?_, fun a ha => r.dis a (List.mem_of_mem_take ha), r.ft, r.tab⟩
  have l : k < n := by
    have := (List.getElem?_eq_some_iff.mp e1).1
    rw [List.length_take] at this
    omega
  rw [List.getElem?_take_of_lt l] at e1 e2
  exact r.obj k a xs e1 e2
theorem SR.cut (s : SR K F0 μ0 H0 F μ S H ρ σ) {n : Nat} (hn : μ0.length ≤ n) : SR K F0 μ0 H0 F (μ.take n) (S.take n) H (cutE n ρ) σ := by
  have gs : ∀ (j : Nat) (c : B), (cutE n ρ)[j]? = some (some c) → ρ[j]? = some (some c) ∧ B.below n c = some c := fun j c e => by
    unfold cutE at e
    rw [List.getElem?_map] at e
    cases q : ρ[j]? with
    | none => rw [q] at e; cases e
    | some o =>
      rw [q] at e
      cases o with
      | none => cases e
      | some b =>
        have e' : B.below n b = some c := by simpa using e
        have : b = c := by
          cases b with
          | r k =>
            have e2 : (if k < n then some (B.r k) else none) = some c := e'
            by_cases l : k < n
            · rw [if_pos l] at e2; cases e2; rfl
            · rw [if_neg l] at e2; cases e2
          | _ => cases e'; rfl
        subst this
        exact ⟨rfl, e'⟩
  refine ⟨s.rel.cut n, ⟨by simp [cutE, s.er.len], fun j c e => ?_, fun j k d1 d2 a1 nn e1 e2 e3 => ?_⟩, s.ext, ?_, fun j d a e1 e2 => s.own j d a (gs j _ e1).1 e2⟩
  · obtain ⟨e1, e2⟩ := gs j c e
    obtain ⟨w, hw, bw⟩ := s.er.val j c e1
    refine ⟨w, hw, ?_⟩
    cases c with
    | t d => exact bw
    | own d => obtain ⟨c, ys, es, e1, e2, hc, rc, nc, mc⟩ := bw; exact ⟨c, ys, es, e1, e2, hc, rc, nc, fun z => mc (List.mem_of_mem_take z)⟩
    | bor d => obtain ⟨c, ys, es, e1, e2, hc, rc, nc, mc⟩ := bw; exact ⟨c, ys, es, e1, e2, hc, rc, nc, fun z => mc (List.mem_of_mem_take z)⟩
    | sc d => obtain ⟨c, ys, es, e1, e2, hc, rc⟩ := bw; exact ⟨c, ys, es, e1, e2, hc.to fun o h mc => ⟨h, fun z => mc (List.mem_of_mem_take z)⟩, rc⟩
    | r k =>
      obtain ⟨c, e1, e3⟩ := bw
      have l : k < n := Decidable.byContradiction fun l => by
        have e2 : (if k < n then some (B.r k) else none) = some (B.r k) := e2
        rw [if_neg l] at e2; cases e2
      exact ⟨c, e1, by rw [List.getElem?_take_of_lt l]; exact e3⟩
  · refine s.er.sep j k d1 d2 a1 nn (gs j _ e1).1 ?_ e3
    rcases e2 with e2 | e2
    · exact .inl (gs k _ e2).1
    · exact .inr (gs k _ e2).1
  · obtain ⟨ν, e, hν⟩ := s.pre
    refine ⟨ν.take (n - μ0.length), ?_, fun a ha => hν a (List.mem_of_mem_take ha)⟩
    rw [e, List.take_append, List.take_of_length_le hn]
theorem SR.base (s : SR K F0 μ0 H0 F μ S H ρ σ) : SR K F μ0 H0 F μ S H ρ σ := ⟨s.rel, s.er, ⟨fun _ _ h => h, fun _ _ => rfl, s.ext.keep, s.ext.live⟩, s.pre, s.own⟩
theorem Ext.unbase (x : Ext μ0 F0 H0 F H) {F' H' : Hp} (y : Ext μ0 F H0 F' H') : Ext μ0 F0 H0 F' H' := ⟨fun a o h => y.fs a o (x.fs a o h), fun a h => (y.fn a h).trans (x.fn a h), y.keep, y.live⟩
theorem SR.unbase (x : Ext μ0 F0 H0 F H) {F' H' : Hp} {μ' : List Addr} {S' : Store} {ρ' : Env} {σ' : L2.St} (s : SR K F μ0 H0 F' μ' S' H' ρ' σ') : SR K F0 μ0 H0 F' μ' S' H' ρ' σ' := ⟨s.rel, s.er, x.unbase s.ext, s.pre, s.own⟩
theorem okSt_base (x : Ext μ0 F0 H0 F H) {r : RS} (h : okSt K xc F0 μ0 H0 W D r) : okSt K xc F μ0 H0 W D r := by
  cases r with
  | nx ρ' S' => exact fun F' μ' H' σ' s => h F' μ' H' σ' (s.unbase x)
  | bk ρ' S' => exact fun F' μ' H' σ' s => h F' μ' H' σ' (s.unbase x)
  | ct ρ' S' => exact fun F' μ' H' σ' s => h F' μ' H' σ' (s.unbase x)
  | rt b S' => exact fun F' μ' H' v r e p bv fr hb => h F' μ' H' v r (x.unbase e) p bv fr hb
  | ex c p ρ' S' => exact fun F' μ' H' σ' cls d s xr => h F' μ' H' σ' cls d (s.unbase x) xr
  | bad => exact h
theorem frzs_seens : ∀ {bs : List B} {ds : List Zw.D}, frzs bs = some ds → seens bs = some ds
  | [], _, h => h
  | b :: r, ds, h => by
    unfold frzs at h
    cases q : b.frz with
    | none => rw [q] at h; cases h
    | some d =>
      rw [q] at h
      cases q2 : frzs r with
      | none => rw [q2] at h; cases h
      | some ds' =>
        rw [q2] at h
        cases h
        have e : b.seen = some d := by
          cases b with
          | t _ => exact q
          | own _ => exact q
          | _ => cases q
        show (b.seen.bind fun d => (seens r).map (d :: ·)) = _
        rw [e, frzs_seens q2]
        rfl
theorem s_for {tg iter : Expr} {body : List Stmt} {pos : Pos} {cs : Bool} {kind : Nat} {its : List CE} {t : Tg} {cb : List CS} (hp : PassesOwn (model X.prog X.w) X.A X.env X.xe) (hc : X.calm = true) (hi : PI X tg iter (tMI X.K xc W (wkM G kind its))) (hg : PG X tg (gOf X.K t))
    (hb : PSs X body (tMS X.K xc W (execs G cb))) (hs : ∀ x, foldedSetIterable iter X.env x = pure x) : PS X (.For tg iter body [] pos) (tMS X.K xc W (exec G (.for_ cs kind its t cb))) :=
  PS.weak (ps_for hp hc hi hg hb hs) fun D σ H ⟨F0, μ0, H0, F, μ, S, ρ, s, h⟩ => by
    rw [exec] at h
    refine ⟨F, μ, S, ρ, s.rel, s.er, ?_⟩
    cases q : evl G its ρ S with
    | bad => rw [q] at h; exact h.elim
    | ex c p S1 =>
      rw [q] at h
      rw [show wkM G kind its ρ S = .ex c p S1 by unfold wkM; rw [q]; rfl]
      exact fun F1 H1 cls d e r1 x => h F1 μ H1 σ cls d (s.step e r1) x
    | ok bs S1 =>
      rw [q] at h
      have h : okSt X.K xc F0 μ0 H0 W D (match (frzs bs).bind (walk kind) with
        | none => .bad
        | some xs => forL cs S1.length (fun x ρ s => match bindT t x ρ with
            | none => .bad
            | some ρ => execs G cb ρ s) xs ρ S1) := h
      cases q2 : (frzs bs).bind (walk kind) with
      | none => rw [q2] at h; exact h.elim
      | some xs =>
      rw [q2] at h
      obtain ⟨ds, q3, q4⟩ := Option.bind_eq_some_iff.mp q2
      rw [show wkM G kind its ρ S = .ok (bs, xs) S1 by unfold wkM; rw [q]; simp [R.bind, seenW, frzs_seens q3, q4, R.of]]
      intro F1 H1 J e1 r1 wk
      have s1 := s.step e1 r1
      have wk := wk.2 (by show (frzs bs).isSome = true; rw [q3]; rfl)
      have h := okSt_base s1.ext h
      have hn : μ0.length ≤ S1.length := by
        obtain ⟨ν, e, _⟩ := s.pre
        rw [← r1.len, e]
        simp
      generalize hf : (fun (x : Zw.D) (ρ : Env) (s : Store) => match bindT t x ρ with
            | none => RS.bad
            | some ρ => execs G cb ρ s) = f at h
      refine ⟨fun i m σ' H' => m = xs.length - i ∧ i ≤ xs.length ∧ ∃ F' μ' S' ρ', SR X.K F1 μ0 H0 F' μ' S' H' ρ' σ' ∧ okSt X.K xc F1 μ0 H0 W D (forL cs S1.length f (xs.drop i) ρ' S'),
        ⟨_, rfl, Nat.zero_le _, F1, μ, S1, ρ, s1.base, h⟩, ?_⟩
      rintro i m σ2 H2 ⟨rfl, hi, F2, μ2, S2, ρ2, s2, h2⟩
      by_cases hlt : i < xs.length
      · refine .inr ⟨wk.go i F2 H2 ⟨s2.ext.fs, s2.rel.sub⟩ hlt, fun σ' H' => ∃ F' μ' S' ρ', SR X.K F1 μ0 H0 F' μ' S' H' ρ' σ' ∧ okSt X.K xc F1 μ0 H0 W D (forL cs S1.length f (xs.drop (i + 1)) ρ' S'),
          fun σ' H' p => ⟨xs.length - (i + 1), by omega, rfl, hlt, p⟩, fun x H' y => ?_⟩
        obtain ⟨F2', nw, d, hd, rx⟩ := wk.yld i F2 H2 x H' ⟨s2.ext.fs, s2.rel.sub⟩ y hlt
        replace s2 := s2.step (nw.ext s2.rel.sub) (nw.rel s2.rel)
        have ed : xs.drop i = d :: xs.drop (i + 1) := by
          rw [List.drop_eq_getElem_cons hlt]
          rw [List.getElem?_eq_getElem hlt] at hd
          cases hd
          rfl
        rw [ed, forL] at h2
        cases qb : bindT t d ρ2 with
        | none =>
          rw [show f d ρ2 S2 = .bad by rw [← hf]; simp only [qb]] at h2
          exact h2.elim
        | some ρ' =>
        rw [show f d ρ2 S2 = execs G cb ρ' S2 by rw [← hf]; simp only [qb]] at h2
        refine s2.bind qb rx fun σ' s' => ⟨F1, μ0, H0, F2', μ2, S2, ρ', s', ?_⟩
        have cutOk : ∀ (ρ3 : Env) (S3 : Store), okSt X.K xc F1 μ0 H0 W D (cutAt cs S1.length (forL cs S1.length f (xs.drop (i + 1))) ρ3 S3) → ∀ F3 μ3 H3 σ3, SR X.K F1 μ0 H0 F3 μ3 S3 H3 ρ3 σ3 →
            ∃ F' μ' S' ρ', SR X.K F1 μ0 H0 F' μ' S' H3 ρ' σ3 ∧ okSt X.K xc F1 μ0 H0 W D (forL cs S1.length f (xs.drop (i + 1)) ρ' S') := fun ρ3 S3 h3 F3 μ3 H3 σ3 s3 => by
          unfold cutAt at h3
          cases hcs : cs with
          | true =>
            rw [hcs] at h3
            exact ⟨F3, _, _, _, s3.cut hn, h3⟩
          | false =>
            rw [hcs] at h3
            exact ⟨F3, _, _, _, s3, h3⟩
        cases qe : execs G cb ρ' S2 with
        | nx ρ3 S3 => rw [qe] at h2; exact fun F3 μ3 H3 σ3 s3 => cutOk ρ3 S3 h2 F3 μ3 H3 σ3 s3
        | ct ρ3 S3 => rw [qe] at h2; exact fun F3 μ3 H3 σ3 s3 => cutOk ρ3 S3 h2 F3 μ3 H3 σ3 s3
        | bk ρ3 S3 => rw [qe] at h2; exact h2
        | rt b S3 => rw [qe] at h2; exact h2
        | ex c p ρ3 S3 => rw [qe] at h2; exact h2
        | bad => rw [qe] at h2; exact h2.elim
      · have e : i = xs.length := by omega
        subst e
        rw [List.drop_length, forL] at h2
        exact .inl ⟨wk.stop F2 H2 ⟨s2.ext.fs, s2.rel.sub⟩, h2 F2 μ2 H2 σ2 s2⟩
theorem s_while {c : Expr} {body : List Stmt} {pos : Pos} {cc : CE} {cb : List CS} (hp : PassesOwn (model X.prog X.w) X.A X.env X.xe) (hc : PT X c (tMT X.K xc W (evT G cc))) (hb : PSs X body (tMS X.K xc W (execs G cb))) :
    PS X (.While c body [] pos) (tMS X.K xc W (exec G (.while_ cc cb))) :=
  PS.weak (ps_while hp hc hb) fun D σ H ⟨F0, μ0, H0, F, μ, S, ρ, s, h⟩ => by
    rw [exec] at h
    refine ⟨fun m σ' H' => ∃ F' μ' S' ρ', SR X.K F0 μ0 H0 F' μ' S' H' ρ' σ' ∧ okSt X.K xc F0 μ0 H0 W D (whileL (evT G cc) (execs G cb) m ρ' S'), ⟨steps, F, μ, S, ρ, s, h⟩, ?_⟩
    rintro m σ1 H1 ⟨F1, μ1, S1, ρ1, s1, h1⟩
    cases m with
    | zero => rw [whileL] at h1; exact h1.elim
    | succ m =>
      rw [whileL] at h1
      refine ⟨F1, μ1, S1, ρ1, s1.rel, s1.er, toT s1 h1 fun F2 H2 k S2 s2 h2 => ?_⟩
      cases k with
      | false => exact h2 F2 μ1 H2 σ1 s2
      | true =>
        rw [if_pos rfl] at h2 ⊢
        refine ⟨fun σ' H' => ∃ F' μ' S' ρ', SR X.K F0 μ0 H0 F' μ' S' H' ρ' σ' ∧ okSt X.K xc F0 μ0 H0 W D (whileL (evT G cc) (execs G cb) m ρ' S'), fun σ' H' p => ⟨m, Nat.lt_succ_self m, p⟩, F0, μ0, H0, F2, μ1, S2, ρ1, s2, ?_⟩
        cases qe : execs G cb ρ1 S2 with
        | nx ρ3 S3 => rw [qe] at h2; exact fun F3 μ3 H3 σ3 s3 => ⟨F3, μ3, S3, ρ3, s3, h2⟩
        | ct ρ3 S3 => rw [qe] at h2; exact fun F3 μ3 H3 σ3 s3 => ⟨F3, μ3, S3, ρ3, s3, h2⟩
        | bk ρ3 S3 => rw [qe] at h2; exact h2
        | rt b S3 => rw [qe] at h2; exact h2
        | ex c p ρ3 S3 => rw [qe] at h2; exact h2
        | bad => rw [qe] at h2; exact h2.elim
end
end Zw
set_option Elab.async false
set_option linter.all false
set_option maxRecDepth 100000
/-! Zw9: statements, third part: several names at once, augmented stores, changes of lists. -/
namespace Zw
open PySem PySem.Spec PyProof.Rows L2
section
variable {X : Cx} {K : PySem.W.Frag} {xc : Nat → Option XCls} {W : WX} {F0 F H0 H F1 H1 : Hp} {μ0 μ : List Addr} {S S1 : Store} {σ : L2.St} {ρ : Env} {G : Gx} {D : Ends}
/-! ### a, b = x, y -/
def FrL : Hp → List V → List B → Prop
  | _, [], [] => True
  | H, v :: vs, b :: bs => Fresh H v b ∧ ∃ H1 : Hp, (∀ a, ¬ Gone H a → ¬ Gone H1 a) ∧ (∀ (d : Zw.D) (a : Addr), b = .own d → v = .ref a → ¬ Gone H1 a) ∧ FrL H1 vs bs
  | _, _, _ => False
def okG (K : PySem.W.Frag) (xc : Nat → Option XCls) (μ : List Addr) (W : WX) (F H : Hp) (σ : L2.St) (r : R (List B)) (Q : List V → Hp → Prop) : Prop := match r with
  | .ok bs S' => ∀ F' H' vs, Ext μ F H F' H' → Rel K F' μ S' H' → BRs K F' μ H' vs bs → FrL H vs bs → Q vs H'
  | .ex c p S' => ∀ F' H' cls d, Ext μ F H F' H' → Rel K F' μ S' H' → XR K xc F' H' c p cls d → W cls d σ H'
  | .bad => False
def tMG (K : PySem.W.Frag) (xc : Nat → Option XCls) (W : WX) (m : Env → Store → R (List B)) : TA := fun σ H Q =>
  ∃ F μ S ρ, Rel K F μ S H ∧ ER K F μ H ρ σ ∧ okG K xc μ W F H σ (m ρ S) Q
theorem g_nil : PA X [] (tMG X.K xc W (evg G [])) := PA.weak pa_nil fun σ H Q ⟨F, μ, S, ρ, rel, er, h⟩ => h F H [] (Ext.refl _ _ _) rel .nil trivial
theorem g_cons {e : Expr} {es : List Expr} {c : CE} {cs : List CE} (he : PE X e (tM X.K xc W (ev G c))) (hes : PA X es (tMG X.K xc W (evg G cs))) (hs : notStar e = true) : PA X (e :: es) (tMG X.K xc W (evg G (c :: cs))) := by
  refine PA.weak (pa_cons he hes (starEach_plain hs)) fun σ H Q ⟨F, μ, S, ρ, rel, er, h⟩ => ⟨F, μ, S, ρ, rel, er, ?_⟩
  rw [show evg G (c :: cs) ρ S = (ev G c ρ S).bind fun x s => (evg G cs ρ s).bind fun xs s => .ok (x :: xs) s from rfl] at h
  cases q : ev G c ρ S with
  | bad => rw [q] at h; exact h.elim
  | ex c p S1 => rw [q] at h; exact h
  | ok b S1 =>
    rw [q] at h
    intro F1 H1 v e1 r1 bv fr
    refine ⟨F1, μ, S1, ρ, r1, er.step e1, ?_⟩
    have h : okG X.K xc μ W F H σ ((evg G cs ρ S1).bind fun xs s => .ok (b :: xs) s) Q := h
    cases q2 : evg G cs ρ S1 with
    | bad => rw [q2] at h; exact h.elim
    | ex c p S2 => rw [q2] at h; exact fun F2 H2 cls d e2 r2 x => h F2 H2 cls d (e1.trans e2) r2 x
    | ok bs S2 =>
      rw [q2] at h
      intro F2 H2 vs e2 r2 bvs frs
      refine h F2 H2 (v :: vs) (e1.trans e2) r2 (.cons (bv.step e2) bvs) ⟨fr, H1, e1.live, fun d a eb ea => ?_, frs⟩
      subst eb
      obtain ⟨c, xs, ds, ev, _, hc, _⟩ := bv
      rw [ea] at ev
      cases ev
      exact lvL hc
theorem toG {r : R (List B)} {g : List B → Store → RS} {Q : List V → Hp → Prop} (s : SR K F0 μ0 H0 F μ S H ρ σ) (h : okSt K xc F0 μ0 H0 W D (r.to ρ g))
    (k : ∀ F1 H1 vs bs S1, SR K F0 μ0 H0 F1 μ S1 H1 ρ σ → BRs K F1 μ H1 vs bs → FrL H vs bs → okSt K xc F0 μ0 H0 W D (g bs S1) → Q vs H1) : okG K xc μ W F H σ r Q := by
  cases r with
  | ok b S1 => exact fun F1 H1 v e r1 bv fr => k F1 H1 v b S1 (s.step e r1) bv fr h
  | ex c p S1 => exact fun F1 H1 cls d e r1 x => h F1 μ H1 σ cls d (s.step e r1) x
  | bad => exact h
def setV : List Nat → List V → L2.St → L2.St
  | i :: is, v :: vs, σ => setV is vs (σ.set i (some v))
  | _, _, σ => σ
theorem gives_some : ∀ {bs bs' : List B}, gives bs = some bs' → bs' = bs ∧ ∀ b ∈ bs, b.give = some b
  | [], _, h => by cases h; exact ⟨rfl, fun _ z => by simp at z⟩
  | b :: r, bs', h => by
    unfold gives at h
    cases q : b.give with
    | none => rw [q] at h; cases h
    | some c =>
      rw [q] at h
      cases q2 : gives r with
      | none => rw [q2] at h; cases h
      | some r' =>
        rw [q2] at h
        cases h
        obtain ⟨rfl, hb⟩ := give_eq q
        obtain ⟨rfl, hr⟩ := gives_some q2
        exact ⟨rfl, fun b hb' => (List.mem_cons.mp hb').elim (fun e => by rw [e]; exact hb) (hr b)⟩
theorem setAll_ok : ∀ {is : List Nat} {bs : List B} {vs : List V} {ρ : Env} {σ : L2.St} {Hm : Hp}, SR K F0 μ0 H0 F μ S H ρ σ → BRs K F μ H vs bs → FrL Hm vs bs → (∀ b ∈ bs, b.give = some b) → (∀ a, ¬ Gone H0 a → ¬ Gone Hm a) →
    (∀ (j : Nat) (d : Zw.D) (a : Addr), (ρ[j]? = some (some (B.own d)) ∨ ρ[j]? = some (some (B.bor d))) → σ[j]? = some (some (V.ref a)) → ¬ Gone Hm a) → SR K F0 μ0 H0 F μ S H (setAll is bs ρ) (setV is vs σ)
  | [], _, _, _, _, _, s, _, _, _, _, _ => by unfold setAll setV; exact s
  | i :: is, [], _, _, _, _, s, .nil, _, _, _, _ => by unfold setAll setV; exact s
  | i :: is, b :: bs, v :: vs, ρ, σ, Hm, s, .cons bv bvs, fr, hb, h0, hl => by
    obtain ⟨fr1, H1, l1, l2, fr2⟩ := fr
    have hb1 := hb b List.mem_cons_self
    have fresh : ∀ (d : Zw.D) (a : Addr), b = .own d → v = .ref a → Gone H0 a ∧ ∀ (j : Nat) (d' : Zw.D), (ρ[j]? = some (some (B.own d')) ∨ ρ[j]? = some (some (B.bor d'))) → σ[j]? ≠ some (some (V.ref a)) := fun d a e1 e2 => by
      subst e1
      have hn : Gone Hm a := fr1 a e2
      exact ⟨Classical.byContradiction fun z => h0 a z hn, fun j d' e3 e4 => hl j d' a e3 e4 hn⟩
    have s1 := s.setB (i := i) bv hb1 fresh
    refine setAll_ok (is := is) s1 bvs fr2 (fun b hb' => hb b (List.mem_cons_of_mem _ hb')) (fun a ha => l1 a (h0 a ha)) fun j d a e1 e2 => ?_
    by_cases q : j = i
    · subst q
      by_cases l : j < ρ.length
      · rw [List.getElem?_set_self l] at e1
        rw [List.getElem?_set_self (by rw [← s.er.len]; exact l)] at e2
        cases e2
        rcases e1 with e1 | e1
        · cases e1
          exact l2 d a rfl rfl
        · cases e1
          cases hb1
      · rw [List.getElem?_eq_none (by simpa using l)] at e1
        rcases e1 with e1 | e1 <;> cases e1
    · rw [List.getElem?_set_ne (Ne.symm q)] at e1 e2
      exact l1 a (hl j d a e1 e2)
theorem par_rd {is : List Nat} {cs : List CE} {Q : List V → Hp → Prop} (h : tMS K xc W (exec G (.par is cs)) D σ H) (k : ∀ vs H1, vs.length = is.length → D.nx (setV is vs σ) H1 → Q vs H1) : tMG K xc W (evg G cs) σ H Q := by
  obtain ⟨F0, μ0, H0, F, μ, S, ρ, s, h⟩ := h
  rw [exec] at h
  refine ⟨F, μ, S, ρ, s.rel, s.er, toG s h fun F1 H1 vs bs S1 s1 bvs fr h1 => ?_⟩
  cases q : gives bs with
  | none => rw [q] at h1; exact h1.elim
  | some bs' =>
    rw [q] at h1
    obtain ⟨rfl, hb⟩ := gives_some q
    have h1 : okSt K xc F0 μ0 H0 W D (if bs'.length = is.length then .nx (setAll is bs' ρ) S1 else .bad) := h1
    by_cases l : bs'.length = is.length
    · rw [if_pos l] at h1
      exact k vs H1 (bvs.length.trans l) (h1 F1 μ H1 _ (setAll_ok s1 bvs fr hb s.ext.live fun j d a e1 e2 => s.er.live e1 e2))
    · rw [if_neg l] at h1; exact h1.elim
theorem s_par2 {i j : Nat} {x y : Str} {a b : Expr} {ca cb : CE} {px py pt pos : Pos} {kt k2 pt2} (hc : X.calm = true) (hN : X.N.Nodup) (hi : X.N[i]? = some x) (hj : X.N[j]? = some y) (hij : i ≠ j)
    (hx : X.env.scope.names.lookup x = some .local) (hy : X.env.scope.names.lookup y = some .local) (ha : PA X [a, b] (tMG X.K xc W (evg G [ca, cb])))
    (hw : swappedStores [.Tuple [.Name x px, .Name y py] kt pt] (.Tuple [a, b] k2 pt2) X.env = pure (some [x, y]))
    (hs : swapsWithSole [.Tuple [.Name x px, .Name y py] kt pt] (.Tuple [a, b] k2 pt2) pos.line X.env = pure false) :
    PS X (.Assign [.Tuple [.Name x px, .Name y py] kt pt] (.Tuple [a, b] k2 pt2) pos) (tMS X.K xc W (exec G (.par [i, j] [ca, cb]))) :=
  PS.weak (ps_par hc hN hi hj hij hx hy ha hw hs) fun D σ H h => par_rd h fun vs H1 l hn => by
    match vs, l with
    | [v, w], _ => exact ⟨v, w, rfl, hn⟩
theorem s_par3 {i j l : Nat} {x y z : Str} {a b c : Expr} {ca cb cc : CE} {px py pz pt pos : Pos} {kt k2 pt2} (hc : X.calm = true) (hN : X.N.Nodup) (hi : X.N[i]? = some x) (hj : X.N[j]? = some y) (hl : X.N[l]? = some z) (hij : i ≠ j) (hil : i ≠ l) (hjl : j ≠ l)
    (hx : X.env.scope.names.lookup x = some .local) (hy : X.env.scope.names.lookup y = some .local) (hz : X.env.scope.names.lookup z = some .local) (ha : PA X [a, b, c] (tMG X.K xc W (evg G [ca, cb, cc])))
    (hw : swappedStores [.Tuple [.Name x px, .Name y py, .Name z pz] kt pt] (.Tuple [a, b, c] k2 pt2) X.env = pure (some [x, y, z]))
    (hs : swapsWithSole [.Tuple [.Name x px, .Name y py, .Name z pz] kt pt] (.Tuple [a, b, c] k2 pt2) pos.line X.env = pure false) :
    PS X (.Assign [.Tuple [.Name x px, .Name y py, .Name z pz] kt pt] (.Tuple [a, b, c] k2 pt2) pos) (tMS X.K xc W (exec G (.par [i, j, l] [ca, cb, cc]))) :=
  PS.weak (ps_par3 hc hN hi hj hl hij hil hjl hx hy hz ha hw hs) fun D σ H h => par_rd h fun vs H1 l hn => by
    match vs, l with
    | [u, v, w], _ => exact ⟨u, v, w, rfl, hn⟩
/-! ### x op= e -/
def augOk : Op2 → Bool
  | .add => true
  | .sub => true
  | _ => false
theorem s_aug {i : Nat} {x : Str} {e : Expr} {c : CE} {op : Op2} {pos pos' : Pos} (hop : augOk op = true) (hN : X.N.Nodup) (hi : X.N[i]? = some x) (hx : Loc X.env.scope x) (he : PE X e (tM X.K xc W (ev G c))) (hf : X.fn x = true ∨ X.env.scope.names.lookup x = some .local) :
    PS X (.AugAssign (.Name x pos') (opOf op) e pos) (tMS X.K xc W (exec G (.aug i op c))) := by
  have main : ∀ (f : Int → Int → Int) (g : Int → Int → Zw.D), PIp X (opOf op) (ipI f) → (∀ a b z, op2 op a b = some (.t (.int z)) → ∃ m n, a = .int m ∧ b = .int n ∧ z = f m n) → PS X (.AugAssign (.Name x pos') (opOf op) e pos) (tMS X.K xc W (exec G (.aug i op c))) := by
    intro f _ hp ho
    refine PS.weak (ps_aug hN hi hx he hp hf) fun D σ H ⟨F0, μ0, H0, F, μ, S, ρ, s, h⟩ => ?_
    rw [exec] at h
    cases q : ρ[i]? with
    | none => rw [q] at h; exact h.elim
    | some o => cases o with
      | none => rw [q] at h; exact h.elim
      | some b => cases b with
        | t d =>
          rw [q] at h
          obtain ⟨v, h1, h2⟩ := s.er.val i _ q
          refine ⟨v, h1, F, μ, S, ρ, s.rel, s.er, toE (g := fun y s => match (y.peek s).bind (op2 op d) with
            | some (.t (.int z)) => .nx (ρ.set i (some (.t (.int z)))) s
            | _ => .bad) s h fun F1 H1 y bY S1 e1 s1 bv fr h3 => ?_⟩
          cases q2 : (bY.peek S1).bind (op2 op d) with
          | none => simp only [q2] at h3; exact h3.elim
          | some z =>
            cases z with
            | t z => cases z with
              | int z =>
                simp only [q2] at h3
                obtain ⟨d2, p2, p3⟩ := Option.bind_eq_some_iff.mp q2
                obtain ⟨m, n, rfl, rfl, rfl⟩ := ho _ _ _ p3
                refine ⟨m, n, rp_int h2, lk_int s1.rel bv (look_of_peek p2), ?_⟩
                exact h3 F1 μ H1 _ (s1.setB (b := .t (.int _)) (.int _) rfl fun _ _ z => by cases z)
              | _ => simp only [q2] at h3; exact h3.elim
            | _ => simp only [q2] at h3; exact h3.elim
        | _ => rw [q] at h; exact h.elim
  cases op with
  | add =>
    refine main (fun a b => a + b) (fun a b => .int 0) ip_add fun a b z h => ?_
    have h : opAdd a b = some (.t (.int z)) := h
    unfold opAdd at h
    split at h
    · cases h; exact ⟨_, _, rfl, rfl, rfl⟩
    · split at h <;> cases h
    · split at h <;> cases h
    · split at h <;> cases h
    · cases h
  | sub =>
    refine main (fun a b => a - b) (fun a b => .int 0) ip_sub fun a b z h => ?_
    have h : opSub a b = some (.t (.int z)) := h
    unfold opSub at h
    split at h
    · cases h; exact ⟨_, _, rfl, rfl, rfl⟩
    · cases h
  | _ => cases hop
/-! ### changes of lists -/
theorem SR.updOwn (s : SR K F0 μ0 H0 F μ S H ρ σ) {i : Nat} {a : Addr} {xs ys : List Zw.D} {vs : List V} (hi : ρ[i]? = some (some (.own (.lst xs)))) (h1 : σ[i]? = some (some (V.ref a))) (r : RpL K F vs ys) :
    SR K F0 μ0 H0 F μ S (upd H a (.lst vs)) (ρ.set i (some (.own (.lst ys)))) σ := by
  obtain ⟨v, h1', c, vs0, ds, e1, e2, ha, rs, n, m⟩ := s.er.val i _ hi
  rw [h1] at h1'
  cases h1'
  cases e1
  cases e2
  have h0 := s.own i _ a hi h1
  have gs : ∀ (j : Nat) (c : B), (ρ.set i (some (B.own (.lst ys))))[j]? = some (some c) → (j = i ∧ c = .own (.lst ys)) ∨ (j ≠ i ∧ ρ[j]? = some (some c)) := fun j c e => by
    by_cases q : j = i
    · subst q
      rw [List.getElem?_set_self (List.getElem?_eq_some_iff.mp hi).1] at e
      cases e
      exact .inl ⟨rfl, rfl⟩
    · rw [List.getElem?_set_ne (Ne.symm q)] at e
      exact .inr ⟨q, e⟩
  refine ⟨s.rel.put n m (isLst ha), ⟨by rw [List.length_set]; exact s.er.len, fun j c e => ?_, fun j k d1 d2 a1 nn e1 e2 e3 => ?_⟩, s.ext.put h0 nt_lst, s.pre, fun j d a1 e1 e2 => ?_⟩
  · rcases gs j c e with ⟨q, e2⟩ | ⟨q, e2⟩
    · subst q e2
      exact ⟨_, h1, a, vs, ys, rfl, rfl, upd_same, r, n, m⟩
    · obtain ⟨w, hw, bw⟩ := s.er.val j c e2
      refine ⟨w, hw, ?_⟩
      have own' : ∀ (d : Zw.D), (ρ[j]? = some (some (B.own d)) ∨ ρ[j]? = some (some (B.bor d))) → OwnAt K F μ H w d → OwnAt K F μ (upd H a (.lst vs)) w d := fun d ej ⟨c, zs, es, e1, e2, hc, rc, nc, mc⟩ => by
        have qa : c ≠ a := fun z => by
          subst e1 z
          exact s.er.sep i j _ d c (Ne.symm q) hi ej h1 hw
        exact ⟨c, zs, es, e1, e2, by rw [upd_ne qa]; exact hc, rc, nc, mc⟩
      cases c with
      | t d => exact bw
      | own d => exact own' d (.inl e2) bw
      | bor d => exact own' d (.inr e2) bw
      | sc d =>
        obtain ⟨c, zs, es, e1, e2, hc, rc⟩ := bw
        refine ⟨c, zs, es, e1, e2, hc.to fun o h mc => ⟨?_, mc⟩, rc⟩
        have qa : c ≠ a := fun z => by rw [z, ha] at h; cases h
        rw [upd_ne qa]; exact h
      | r k => exact bw
  · have old : ∀ (j : Nat) (d : Zw.D), (ρ.set i (some (B.own (.lst ys))))[j]? = some (some (.own d)) → ∃ d', ρ[j]? = some (some (B.own d')) := fun j d e => by
      rcases gs j _ e with ⟨q, _⟩ | ⟨_, e⟩
      · exact ⟨_, by rw [q]; exact hi⟩
      · exact ⟨d, e⟩
    obtain ⟨d1', e1⟩ := old j d1 e1
    rcases e2 with e2 | e2
    · obtain ⟨d2', e2⟩ := old k d2 e2
      exact s.er.sep j k d1' d2' a1 nn e1 (.inl e2) e3
    · rcases gs k _ e2 with ⟨_, z⟩ | ⟨_, e2⟩
      · cases z
      · exact s.er.sep j k d1' d2 a1 nn e1 (.inr e2) e3
  · rcases gs j _ e1 with ⟨q, _⟩ | ⟨_, e1⟩
    · rw [q, h1] at e2; cases e2; exact h0
    · exact s.own j d a1 e1 e2
theorem SR.updRef (s : SR K F0 μ0 H0 F μ S H ρ σ) {k : Nat} {a : Addr} {ys : List Zw.D} {vs : List V} (hk : μ[k]? = some a) (r : RpL K F vs ys) : SR K F0 μ0 H0 F μ (S.set k (.lst ys)) (upd H a (.lst vs)) ρ σ := by
  have ha : a ∈ μ := List.mem_of_getElem? hk
  have lk : k < S.length := by rw [← s.rel.len]; exact (List.getElem?_eq_some_iff.mp hk).1
  obtain ⟨vs0, h0a⟩ := s.rel.live1 ha
  refine ⟨⟨fun b o e => ?_, by rw [List.length_set]; exact s.rel.len, s.rel.nd, fun j b zs e1 e2 => ?_, s.rel.dis, s.rel.ft, tabs_lst s.rel.tab h0a⟩, ⟨s.er.len, fun j c e => ?_, s.er.sep⟩, ⟨s.ext.fs, s.ext.fn, fun b o e n m => ?_, fun b e => ?_⟩, s.pre, s.own⟩
  · have q : b ≠ a := fun z => by rw [z, s.rel.dis a ha] at e; cases e
    rw [upd_ne q]; exact s.rel.sub b o e
  · by_cases q : j = k
    · subst q
      rw [hk] at e1
      cases e1
      rw [List.getElem?_set_self lk] at e2
      cases e2
      exact ⟨vs, upd_same, r⟩
    · rw [List.getElem?_set_ne (Ne.symm q)] at e2
      obtain ⟨ws, h1, h2⟩ := s.rel.obj j b zs e1 e2
      have qa : b ≠ a := fun z => by
        subst z
        obtain ⟨l1, q1⟩ := List.getElem?_eq_some_iff.mp e1
        obtain ⟨l2, q2⟩ := List.getElem?_eq_some_iff.mp hk
        exact q ((List.getElem_inj s.rel.nd).mp (q1.trans q2.symm))
      exact ⟨ws, by rw [upd_ne qa]; exact h1, h2⟩
  · obtain ⟨w, hw, bw⟩ := s.er.val j c e
    refine ⟨w, hw, ?_⟩
    have own' : ∀ (d : Zw.D), OwnAt K F μ H w d → OwnAt K F μ (upd H a (.lst vs)) w d := fun d ⟨c, zs, es, e1, e2, hc, rc, nc, mc⟩ =>
      ⟨c, zs, es, e1, e2, by rw [upd_ne (fun z => mc (by rw [z]; exact ha))]; exact hc, rc, nc, mc⟩
    cases c with
    | t d => exact bw
    | own d => exact own' d bw
    | bor d => exact own' d bw
    | sc d =>
      obtain ⟨c, zs, es, e1, e2, hc, rc⟩ := bw
      exact ⟨c, zs, es, e1, e2, hc.to fun o h mc => ⟨by rw [upd_ne (fun z => mc (by rw [z]; exact ha))]; exact h, mc⟩, rc⟩
    | r k => exact bw
  · by_cases q : b = a
    · subst q
      obtain ⟨ν, e1, hν⟩ := s.pre
      rw [e1] at ha
      rcases List.mem_append.mp ha with ha | ha
      · exact absurd ha m
      · exact (hν b ha o e n).elim
    · rw [upd_ne q]; exact s.ext.keep b o e n m
  · exact gone_upd (s.ext.live b e) nt_lst
theorem lst_ok {i : Nat} {xs : List Zw.D} (s : SR K F0 μ0 H0 F μ S H ρ σ) (h : lstAt i ρ S = some xs) : ∃ a vs, σ[i]? = some (some (V.ref a)) ∧ H a = some (.lst vs) ∧ RpL K F vs xs ∧
    ∀ ys vs', RpL K F vs' ys → okSt K xc F0 μ0 H0 W D (lstPut i ys ρ S) → D.nx σ (upd H a (.lst vs')) := by
  unfold lstAt at h
  cases q : ρ[i]? with
  | none => rw [q] at h; cases h
  | some o => cases o with
    | none => rw [q] at h; cases h
    | some b => cases b with
      | own d => cases d with
        | lst ds =>
          rw [q] at h
          cases h
          obtain ⟨v, h1, a, vs, ds, e1, e2, ha, rs, n, m⟩ := s.er.val i _ q
          cases e1
          cases e2
          refine ⟨a, vs, h1, ha, rs, fun ys vs' r h => ?_⟩
          unfold lstPut at h
          rw [q] at h
          exact h F μ _ σ (s.updOwn q h1 r)
        | _ => rw [q] at h; cases h
      | r k =>
        rw [q] at h
        obtain ⟨v, h1, a, e1, hk⟩ := s.er.val i _ q
        subst e1
        have h : (match S[k]? with | some (.lst xs) => some xs | none => none) = some xs := h
        cases q2 : S[k]? with
        | none => rw [q2] at h; cases h
        | some o => cases o with
          | lst zs =>
            rw [q2] at h
            cases h
            obtain ⟨vs, h2, h3⟩ := s.rel.obj k a _ hk q2
            refine ⟨a, vs, h1, h2, h3, fun ys vs' r h => ?_⟩
            unfold lstPut at h
            rw [q] at h
            exact h F μ _ σ (s.updRef hk r)
      | _ => rw [q] at h; cases h
/-- the list is a list before as well -/
theorem ixN_eq (n : Nat) (i : Int) : L2.ixN n i = ixN n i := rfl
theorem s_setIx {i : Nat} {o e k : Expr} {c ck : CE} {pos p2 : Pos} (ho : PE X o (tVar i)) (hk : PE X k (tM X.K xc W (ev G ck))) (he : PE X e (tM X.K xc W (ev G c))) (hs : swapsWithSole [.Subscript o k p2] e pos.line X.env = pure false)
    (hw : swappedStores [.Subscript o k p2] e X.env = pure none) (h1 : (assignEach [.Subscript o k p2] X.env).map (·.2) = [assign (.Subscript o k p2) X.env])
    (ha : ∀ v, assign (.Subscript o k p2) X.env v = (do
      let ov ← holding [v] (eval o X.env)
      let iv ← holding [v, ov] (eval k X.env)
      standAt p2
      holding [v, ov, iv] (setItem ov iv v)
      release [v, ov, iv] [])) : PS X (.Assign [.Subscript o k p2] e pos) (tMS X.K xc W (exec G (.setIx i ck c))) :=
  PS.weak (ps_asg he (pg_sub ho hk set_list ha) hs hw h1) fun D σ H ⟨F0, μ0, H0, F, μ, S, ρ, s, h⟩ => by
    refine ⟨F, μ, S, ρ, s.rel, s.er, toEs s (by rw [exec] at h; exact h) fun F1 H1 v b S1 e1 s1 bv h1 => ?_⟩
    cases q : b.frz with
    | none => rw [q] at h1; exact h1.elim
    | some d =>
    rw [q] at h1
    cases q2 : lstAt i ρ S1 with
    | none => rw [q2] at h1; exact h1.elim
    | some xs =>
    rw [q2] at h1
    obtain ⟨a, vs, hσ, _⟩ := lst_ok (xc := xc) (W := W) (D := D) s1 q2
    refine ⟨.ref a, hσ, F1, μ, S1, ρ, s1.rel, s1.er, toE s1 h1 fun F2 H2 w bw S2 e2 s2 bwv fr h2 => ?_⟩
    cases q3 : lstAt i ρ S2 with
    | none => rw [q3] at h2; split at h2 <;> first | exact h2.elim | (rename_i z; cases z)
    | some ys =>
    rw [q3] at h2
    split at h2
    · rename_i n zs ez
      cases ez
      cases q4 : ixN ys.length n with
      | none => rw [q4] at h2; exact h2.elim
      | some j =>
        rw [q4] at h2
        obtain ⟨a2, vs2, hσ2, ha2, r2, fin⟩ := lst_ok (xc := xc) (W := W) (D := D) s2 q3
        rw [hσ] at hσ2
        cases hσ2
        refine ⟨a, vs2, n, j, rfl, rp_int bwv, ha2, by rw [r2.length]; exact q4, fin _ _ (r2.set ((frz_still q bv).mono e2.fs) j) h2⟩
    · exact h2.elim
theorem s_app {i : Nat} {o e : Expr} {c : CE} {apos cpos pos : Pos} (ho : PE X o (tVar i)) (he : PE X e (tM X.K xc W (ev G c))) (hst : notStar e = true) (hbase : attributeBase o "append" X.env (eval o X.env) = eval o X.env)
    (hline : (apos.endLine == cpos.line) = true) (hfew : ((backTo cpos (starEach [e] X.env)).all (fun x => !x.1) && (backToKw cpos (keywordEach [] X.env)).all (fun x => x.1.isSome)
      && decide ([e].length + ([] : List Keyword).length + (if ([] : List Keyword).isEmpty then 0 else 1) < 30)) = true)
    (hs : swapsWith (.Call (.Attribute o "append" apos) [e] [] cpos) none pos.line X.env = pure false) : PS X (.Expr (.Call (.Attribute o "append" apos) [e] [] cpos) pos) (tMS X.K xc W (exec G (.app i c))) :=
  PS.weak (ps_expr (pe_bm F.plainAttrs_list F.slot_list_append F.type_list_append mt_append ho (pa_cons he pa_nil (starEach_plain hst)) hbase hfew hline (starEach_plain hst) rfl) hs) fun D σ H ⟨F0, μ0, H0, F, μ, S, ρ, s, h⟩ => by
    rw [exec] at h
    cases q0 : lstAt i ρ S with
    | none => rw [q0] at h; exact h.elim
    | some xs0 =>
    rw [q0] at h
    obtain ⟨a, vs, hσ, ha, _⟩ := lst_ok (xc := xc) (W := W) (D := D) s q0
    refine ⟨.ref a, hσ, .inl ⟨rfl, vs, SqL.of ha⟩, F, μ, S, ρ, s.rel, s.er, toEs s h fun F1 H1 v b S1 e1 s1 bv h1 => ?_⟩
    cases q : b.frz with
    | none => rw [q] at h1; exact h1.elim
    | some d =>
    rw [q] at h1
    cases q2 : lstAt i ρ S1 with
    | none => rw [q2] at h1; exact h1.elim
    | some xs =>
    rw [q2] at h1
    obtain ⟨a2, vs2, hσ2, ha2, r2, fin⟩ := lst_ok (xc := xc) (W := W) (D := D) s1 q2
    rw [hσ] at hσ2
    cases hσ2
    have h1 : okSt X.K xc F0 μ0 H0 W D (if xs.length < line then lstPut i (xs ++ [d]) ρ S1 else .bad) := h1
    by_cases l : xs.length < line
    · rw [if_pos l] at h1
      exact ⟨a, vs2, v, rfl, rfl, ha2, by rw [r2.length, ← line_eq]; exact l, fin _ _ (r2.append (.cons (frz_still q bv) .nil)) h1⟩
    · rw [if_neg l] at h1; exact h1.elim
theorem s_ext {i : Nat} {o e : Expr} {c : CE} {apos cpos pos : Pos} (ho : PE X o (tVar i)) (he : PE X e (tM X.K xc W (ev G c))) (hst : notStar e = true) (hbase : attributeBase o "extend" X.env (eval o X.env) = eval o X.env)
    (hline : (apos.endLine == cpos.line) = true) (hfew : ((backTo cpos (starEach [e] X.env)).all (fun x => !x.1) && (backToKw cpos (keywordEach [] X.env)).all (fun x => x.1.isSome)
      && decide ([e].length + ([] : List Keyword).length + (if ([] : List Keyword).isEmpty then 0 else 1) < 30)) = true)
    (hs : swapsWith (.Call (.Attribute o "extend" apos) [e] [] cpos) none pos.line X.env = pure false) : PS X (.Expr (.Call (.Attribute o "extend" apos) [e] [] cpos) pos) (tMS X.K xc W (exec G (.ext i c))) :=
  PS.weak (ps_expr (pe_bm F.plainAttrs_list F.slot_list_extend F.type_list_extend mt_extend ho (pa_cons he pa_nil (starEach_plain hst)) hbase hfew hline (starEach_plain hst) rfl) hs) fun D σ H ⟨F0, μ0, H0, F, μ, S, ρ, s, h⟩ => by
    rw [exec] at h
    cases q0 : lstAt i ρ S with
    | none => rw [q0] at h; exact h.elim
    | some xs0 =>
    rw [q0] at h
    obtain ⟨a, vs, hσ, ha, _⟩ := lst_ok (xc := xc) (W := W) (D := D) s q0
    refine ⟨.ref a, hσ, .inl ⟨rfl, vs, SqL.of ha⟩, F, μ, S, ρ, s.rel, s.er, toE s h fun F1 H1 v b S1 e1 s1 bv fr h1 => ?_⟩
    cases q : b.peek S1 with
    | none => rw [q] at h1; exact h1.elim
    | some d =>
    rw [q] at h1
    cases d with
    | lst ys =>
      cases q2 : lstAt i ρ S1 with
      | none => rw [q2] at h1; exact h1.elim
      | some xs =>
      rw [q2] at h1
      obtain ⟨a2, vs2, hσ2, ha2, r2, fin⟩ := lst_ok (xc := xc) (W := W) (D := D) s1 q2
      rw [hσ] at hσ2
      cases hσ2
      obtain ⟨a3, vs3, e3, ha3, r3⟩ := pk_lst s1.rel bv q
      have h1 : okSt X.K xc F0 μ0 H0 W D (if xs.length + ys.length ≤ line then lstPut i (xs ++ ys) ρ S1 else .bad) := h1
      by_cases l : xs.length + ys.length ≤ line
      · rw [if_pos l] at h1
        exact ⟨a, a3, vs2, vs3, rfl, by rw [e3], ha2, ha3, by rw [r2.length, r3.length, ← line_eq]; exact l, fin _ _ (r2.append r3) h1⟩
      · rw [if_neg l] at h1; exact h1.elim
    | _ => exact h1.elim
end
end Zw
set_option Elab.async false
set_option linter.all false
set_option maxRecDepth 100000
set_option maxHeartbeats 2000000
/-! ZwL: a def that calls the lambda it gets; the guards of repr are kept in sight. -/
namespace Zw
open PySem PySem.Spec PyProof.Rows L2
abbrev lamO (X : Cx) (ps : Arguments) (body : Expr) (sc : Scope) (pm : Value) (co : Addr) (ct : Value) : Obj := PySem.W.kla_obj "<lambda>" (X.env.qual ++ "<lambda>") ps body sc (cloFrom X.env.cells sc.names []) pm co ct
abbrev lamF (X : Cx) (ps : Arguments) (body : Expr) (sc : Scope) (pm : Value) (co : Addr) (ct : Value) : FuncData := PySem.W.kla_fn "<lambda>" (X.env.qual ++ "<lambda>") ps body sc (cloFrom X.env.cells sc.names []) pm (.ref co) ct
section
variable {X : Cx} {pins : List (Addr × Obj)} {σ : L2.St} {H : Hp} {s : Shared}
/-- the call of what was got, in the def Z that got it -/
theorem act_call {EZ : XK} {NZ : List Str} {qz : Str} {sz : Scope} {gz fo co : Addr} {cz pm ct : Value} {ps : Arguments} {body : Expr} {sc : Scope} {k : Nat} {a : Str} {pn : List (Addr × Obj)} {xe : Value → Shared → Prop} {W : WX} {E : XK} {tb : TE} {p1 p2 : Pos}
    (I : Inv X pins σ H s) (L : LamX.LamS X.env.scope sc) (ho : s.heap.get? fo = some (lamO X ps body sc pm co ct)) (hn : H fo = none) (hr : fo ∉ frs X.stack) (hb : bindArgs (lamF X ps body sc pm co ct) ⟨[], []⟩ = pure [])
    (tk : Takes ((cxOf C8.CX0 X.prog X.w X.K X.mg X.base NZ qz sz gz cz X.A X.stack s H EZ).tr pn xe) W) (hW : ∀ cls d σ' H', E cls d H' → W cls d σ' H') (room : Room (k + 1) (X.A.deeper (envOfC qz sz s.heap.objs.size gz cz)))
    (hbody : ∀ (A : Around) (outer : List PySem.Env) (s : Shared) (H : Hp), A.guards = X.A.guards → Room k (A.deeper (LamX.lamEnv X sc s.heap.objs.size fo co)) → PE (LamX.lamCx X A outer s H E sc fo co) body tb)
    (hN : NZ[0]? = some a) (hv : Vis sz a) (hd : (a == ("__debug__" : Str)) = false) (hcd : (a == ("__classdict__" : Str)) = false) :
    PE ((cxOf C8.CX0 X.prog X.w X.K X.mg X.base NZ qz sz gz cz X.A X.stack s H EZ).tr pn xe) (.Call (.Name a p1) [] [] p2)
      (fun σz Hz Q => σz[0]? = some (some (.ref fo)) ∧ Hz co = some (LamX.CodeO co (X.env.qual ++ "<lambda>")) ∧ tb σ Hz Q) := by
  constructor
  intro pz sZ σz Hz Q IZ ⟨h1, h2, h3⟩
  have look := (pe_var (pos := p1) (i := 0) hN hv hd hcd).run pz sZ σz Hz (fun v K1 => v = .ref fo ∧ K1 = Hz) IZ ⟨.ref fo, h1, rfl, rfl⟩
  refine wpAny_Call_Name_kw (thn look ?_)
  rintro u s1 ⟨v, K1, J, rv, e1, e2⟩
  subst e1 e2
  obtain rfl : u = Value.ref fo := rv
  have at1 := J.base.keep fo _ ho hn hr (fun z => nomatch (show fo ∈ ([] : List Addr) from z))
  refine PySem.W.callWith_F0 ⟨_, _, _, _, at1⟩ ?_
  obtain ⟨⟨oc, vs, t, c1, c2, c3⟩, _⟩ := J.hok co _ h2
  refine wpAny_call (codeAny_mono (PySem.W.kla_callFunE room.depth at1 rfl L.co L.gen rfl ⟨co, oc, vs, t, rfl, c1, c2, c3⟩ ?_) (R := CR (L2.CX X.prog X.w) (envOfC qz sz s.heap.objs.size gz cz :: X.stack) X.prog X.w K1 s1 Q E) fun r s' hq => ?_)
  · show wpAny _ _ (bindArgs (lamF X ps body sc pm co ct) ⟨[], []⟩) _ _ _
    rw [hb]
    refine wpAny_pure ?_
    refine wpAny_newFunctionEnv (fun y hy => (L.own y hy).2) (fun y hy => absurd hy (by simp)) (fun h2 ns sb => ⟨J.nolimit.fresh _ sb, ?_⟩) L.kind
    refine PySem.W.kla_codeExpr (wpAny_mono ((hbody (X.A.deeper (envOfC qz sz s.heap.objs.size gz cz)) (envOfC qz sz s.heap.objs.size gz cz :: X.stack) s1 K1 rfl (room.deeper _)).run [] _ _ K1 Q ?_ h3) ?_ fun _ _ z => z)
    · refine LamX.lam_start2 I L J.env0 room.hd J.base ns fun b o e => ?_
      exact sb.extBut b o (Nat.ne_of_lt (Heap.lt_size e)) (Heap.get?_push_of_some _ e)
    · rintro v s2 ⟨w', H', I2, rw', q⟩
      exact ⟨w', H', I2.os, I2.bare, I2.base, I2.hok, rw', q⟩
  · cases r with
    | ok fl =>
      cases fl with
      | ret u => exact J.after hq
      | _ => exact hq.elim
    | error e => exact passes_call tk hW pz σz K1 s1 e s' J hq
/-- x(lambda: body), the def x tells what comes of it -/
theorem pe_tell {TT : (XK → Hp → VK → Prop) → Hp → VK → Prop} {T : List (Addr × Str)} {x a : Str} {g c P : Addr} {k : Nat} {pg : Arguments} {bg : List Stmt} {sg : Scope} {fd : FuncData} {Ng : List Str}
    {ps : Arguments} {body : Expr} {sc : Scope} {t : XK → TE} {p lp pos : Pos} (hg : L2.Gl X x) (hm : X.mg x = some (.ref g)) (FD : FunD X.K x x pg bg sg [] [] g fd) (hb : ∀ (s : Shared) (u : Value), BindsTo s fd ⟨[u], []⟩ [(a, u)]) (Sg : FnScope Ng [a] sg) (hN : Ng[0]? = some a) (hva : Vis sg a)
    (hG : ∀ cdg, LamX.GivesTo X Ng x sg g cdg bg a (X.env.qual ++ "<lambda>") TT) (TB : LamX.TabB X.base X.mg c P) (hcode : X.env.code = .ref c) (hT : (P, X.env.qual ++ "<lambda>") ∈ T) (hu : ∀ p ∈ T, p.1 = P → p.2 = X.env.qual ++ "<lambda>") (room : Room (k + 2) X.A)
    (L : LamX.LamS X.env.scope sc) (hdef : defaultsOf ps X.env = ([], [])) (hbind : ∀ (pm ct : Value) (co : Addr), bindArgs (lamF X ps body sc pm co ct) ⟨[], []⟩ = pure [])
    (hbody : ∀ (A : Around) (outer : List PySem.Env) (s : Shared) (H : Hp) (E : XK) (fo co : Addr), A.guards = X.A.guards → Room k (A.deeper (LamX.lamEnv X sc s.heap.objs.size fo co)) → PE (LamX.lamCx X A outer s H E sc fo co) body (t E))
    (hdb : (x == ("__debug__" : Str)) = false) (hd : (a == ("__debug__" : Str)) = false) (hcd : (a == ("__classdict__" : Str)) = false) :
    PE X (.Call (.Name x p) [.Lambda ps body sc lp] [] pos) (LamX.tLam T TT t) := by
  constructor
  rintro pins s σ H Q I ⟨tb, h⟩
  refine wpAny_Call_Name_kw (ld_glob I hg hm (PySem.W.callWith_K (h₀ := X.base) I.ok.mod.kin FD.kp ?_ (by rfl) (by rfl)) hdb)
  show wpAny _ _ (spliced ((false, eval (.Lambda ps body sc lp) X.env) :: backTo pos (starEach [] X.env))) _ _ s
  refine Calls.spliced_cons (LamX.lam_make2 I TB hcode hT hu tb hdef (L.has I.ok) ?_)
  intro fo co pm ct H1 s1 I1 eN T1 ho hn hfr hco
  refine Calls.spliced_nil ⟨I1.kIn, wpAny_call ?_⟩
  obtain ⟨oc, od, dV, kV, doc, pm2, an, cdv, ct2, osl, e, lk, hcd', _, _⟩ := FD.ex
  subst e
  have run := LamX.run_ofS (CX := C8.CX0) (P := X.prog) (w := X.w) (mg := X.mg) (base := X.base) (N := Ng) (ps := [a]) (args := ⟨[.ref fo], []⟩) (us := [.ref fo]) (vs := [.ref fo]) (Q := Q) (E := C8.E0) lk hcd' Sg room I1.env0 (hb s1 (.ref fo)) (.cons rfl .nil) rfl fun hr' => by
    obtain ⟨t', a1, a2⟩ := hG cdv fo co s1 H1 Q (fun E H' Q' => t E σ H' Q') (fun W pn xe E p1 p2 tk hW => act_call I1 L ho hn hfr (hbind _ _ _) tk hW hr' (fun A outer s H gd r2 => hbody A outer s H E fo co gd r2) hN hva hd hcd) hco (h H1 eN T1)
    exact ⟨t', a1.nox, a2⟩
  refine codeAny_mono run fun r s2 hq => ?_
  cases r with
  | ok fl =>
    cases fl with
    | ret u => exact I1.after hq
    | _ => exact hq.elim
  | error e => exact (show False from hq).elim
end
end Zw
set_option Elab.async false
set_option linter.all false
set_option maxRecDepth 100000
/-! Zw10: the text against the core: a check by computation. -/
namespace Zw
open PySem PySem.Spec PyProof.Rows L2
/-! ### what is checked in -/
/-- one law's names -/
structure Ck where
  fnm : List Str
  gcn : List Str
  free : List Str
  gcd : Bool
  /-- classes of exceptions, defs that call what they get, defs that make lambdas -/
  clm : List Str := []
  tlm : List Str := []
  mkr : List Str := []
/-- a block's names -/
structure CkE where
  N : List Str
  sc : Scope
  fn : Str → Bool
  lam : Bool := false
theorem b2a {a b : Bool} (h : (a && b) = true) : a = true ∧ b = true := Bool.and_eq_true_iff.mp h
def okName (x : Str) : Bool := !(x == ("__debug__" : Str)) && !(x == ("__classdict__" : Str))
def visB (sc : Scope) (x : Str) : Bool := match sc.names.lookup x with
  | some .local => true
  | some .cell => true
  | some .free => true
  | _ => false
def locB (sc : Scope) (x : Str) : Bool := match sc.names.lookup x with
  | some .local => true
  | some .cell => true
  | _ => false
def localB (sc : Scope) (x : Str) : Bool := match sc.names.lookup x with
  | some .local => true
  | _ => false
def glB (sc : Scope) (x : Str) : Bool := match sc.names.lookup x with
  | some .globalImplicit => true
  | _ => false
def atB (xs : List Str) (i : Nat) (x : Str) : Bool := decide (xs[i]? = some x)
def constB : Const → D → Bool
  | .none, .non => true
  | .bool b, .bl c => b == c
  | .int i, .int j => decide (i = j)
  | .str s, .str t => decide (s = t)
  | _, _ => false
def biNm : Bi → Option Str
  | .len => some "len"
  | .abs => some "abs"
  | .int => some "int"
  | .all => some "all"
  | .any => some "any"
  | .repr => some "repr"
  | .tuple => some "tuple"
  | .list => some "list"
  | .sum => some "sum"
  | _ => none
def biNm2 : Bi → Option Str
  | .max2 => some "max"
  | .min2 => some "min"
  | _ => none
def strEq (a b : Str) : Bool := decide (a = b)
def opEq : Operator → Operator → Bool
  | .Add, .Add => true
  | .Sub, .Sub => true
  | .Mult, .Mult => true
  | .Mod, .Mod => true
  | .FloorDiv, .FloorDiv => true
  | .Pow, .Pow => true
  | _, _ => false
def cmEq : CmpOp → CmpOp → Bool
  | .Eq, .Eq => true
  | .NotEq, .NotEq => true
  | .Lt, .Lt => true
  | .LtE, .LtE => true
  | .Gt, .Gt => true
  | .GtE, .GtE => true
  | .Is, .Is => true
  | .IsNot, .IsNot => true
  | .In, .In => true
  | .NotIn, .NotIn => true
  | _, _ => false
/-- a test of no form of its own -/
def plainT : Expr → Bool
  | .UnaryOp .. => false
  | .BoolOp .. => false
  | .IfExp .. => false
  | .Compare .. => false
  | _ => true
def notSet : Expr → Bool
  | .Set .. => false
  | _ => true
def ownOf (N : List Str) (own : List Nat) : List (Str × Nat) := own.filterMap fun i => (N[i]?).map fun x => (x, i)
/-- the comprehension's block -/
def CkE.blk (E : CkE) (scope : Scope) : CkE := ⟨E.N, relS scope E.sc, fun x => match scope.names.lookup x with
  | some .cell => true
  | _ => false, false⟩
mutual
def chkG (E : CkE) : Tg → Expr → Bool
  | .nm i, .Name x _ => atB E.N i x && locB E.sc x && (E.fn x || localB E.sc x)
  | .tup ts, .Tuple es _ _ => chkGs E ts es
  | _, _ => false
def chkGs (E : CkE) : List Tg → List Expr → Bool
  | [], [] => true
  | t :: ts, e :: es => notStar e && chkG E t e && chkGs E ts es
  | _, _ => false
end
def allB {α β : Type} (f : α → β → Bool) : List α → List β → Bool
  | [], [] => true
  | a :: as, b :: bs => f a b && allB f as bs
  | _, _ => false
def starB (f : CE → Expr → Bool) : List (Bool × CE) → List Expr → Bool
  | [], [] => true
  | (true, c) :: cs, .Starred e _ :: es => f c e && starB f cs es
  | (false, c) :: cs, e :: es => notStar e && f c e && starB f cs es
  | _, _ => false
def optB (f : CE → Expr → Bool) : Option CE → Option Expr → Bool
  | none, none => true
  | some c, some e => f c e
  | _, _ => false
def tyNm (ty : Ty) (x : Str) : Bool := match ty.name with
  | some n => decide (x = Str.ofString n)
  | none => false
def freeB (M : Ck) (E : CkE) (x : Str) : Bool := glB E.sc x && decide (x ∈ M.free)
def isTupE : Expr → Bool
  | .Tuple .. => true
  | _ => false
def noArgs : Arguments → Bool
  | ⟨[], [], none, [], [], none, []⟩ => true
  | _ => false
def tellB (M : Ck) (E : CkE) (t : Nat) (x : Str) (ps : Arguments) (sc : Scope) : Bool := atB M.tlm t x && glB E.sc x && okName x && E.lam && LamX.lamSB E.sc sc && noArgs ps
def itB (M : Ck) (E : CkE) (f : CE → Expr → Bool) (tg : Expr) : Nat → List CE → Expr → Bool
  | 0, [c], e => f c e && notSet e
  | 1, [c], .Call (.Name x _) [e] [] _ => strEq x "range" && freeB M E x && f c e && notStar e
  | 2, [c, d], .Call (.Name x _) [e, e'] [] _ => strEq x "range" && freeB M E x && f c e && notStar e && f d e' && notStar e'
  | 3, [c], .Call (.Name x _) [e] [] _ => strEq x "enumerate" && freeB M E x && f c e && notStar e && isTupE tg
  | 4, [c, d], .Call (.Name x _) [e, e'] [] _ => strEq x "zip" && freeB M E x && f c e && notStar e && f d e' && notStar e' && isTupE tg
  | _, _, _ => false
def compB (M : Ck) (E : CkE) (f : CkE → CE → Expr → Bool) (t : CkE → CE → Expr → Bool) (kind : Nat) (its : List CE) (tg : Tg) (own : List Nat) (conds : List CE) (elt : CE) (el tge it : Expr) (ifs : List Expr) (scope : Scope) : Bool :=
  itB M E (f E) tge kind its it && blkC E.N E.sc scope (ownOf E.N own) && decide ((ownOf E.N own).map (·.2) = own) && (tg.slots.all fun i => decide (i ∈ own)) && chkG (E.blk scope) tg tge &&
    (match conds, ifs with
      | [], [] => true
      | [c], [e] => t (E.blk scope) c e
      | _, _ => false) && f (E.blk scope) elt el
def callB (M : Ck) (E : CkE) (f : CE → Expr → Bool) (g : Nat) (cs : List CE) (x : Str) (es : List Expr) : Bool := atB M.fnm g x && glB E.sc x && okName x && es.all notStar && allB f cs es
mutual
def chkE (M : Ck) : Nat → CkE → CE → Expr → Bool
  | 0, _, _, _ => false
  | n + 1, E, c, e => match c with
    | .var i => (match e with
      | .Name x _ => atB E.N i x && visB E.sc x && okName x
      | _ => false)
    | .cst d => (match e with
      | .Constant k _ _ => constB k d
      | _ => false)
    | .gc g => (match e with
      | .Name x _ => atB M.gcn g x && glB E.sc x && okName x
      | _ => false)
    | .bin op a b => (match e with
      | .BinOp l o r _ => opEq (opOf op) o && chkE M n E a l && chkE M n E b r
      | _ => false)
    | .neg a => (match e with
      | .UnaryOp .USub x _ => chkE M n E a x
      | _ => false)
    | .notv a => (match e with
      | .UnaryOp .Not x _ => chkE M n E a x
      | _ => false)
    | .andv cs => (match e with
      | .BoolOp .And es _ => !cs.isEmpty && allB (chkE M n E) cs es
      | _ => false)
    | .orv cs => (match e with
      | .BoolOp .Or es _ => !cs.isEmpty && allB (chkE M n E) cs es
      | _ => false)
    | .cmp op a b => (match e with
      | .Compare l [o] [r] _ => cmEq (cmOf op) o && notSet r && chkE M n E a l && chkE M n E b r
      | _ => false)
    | .chain o1 o2 a b c => (match e with
      | .Compare l [p1, p2] [m, r] _ => cmEq (cmOf o1) p1 && cmEq (cmOf o2) p2 && notSet m && notSet r && chkE M n E a l && chkE M n E b m && chkE M n E c r
      | _ => false)
    | .ife c a b => (match e with
      | .IfExp t x y _ => chkT M n E c t && chkE M n E a x && chkE M n E b y
      | _ => false)
    | .tup cs => (match e with
      | .Tuple es _ _ => starB (chkE M n E) cs es
      | _ => false)
    | .lst cs => (match e with
      | .List es _ => starB (chkE M n E) cs es
      | _ => false)
    | .ix a b => (match e with
      | .Subscript x i _ => notSlice i && chkE M n E a x && chkE M n E b i
      | _ => false)
    | .sl a lo hi => (match e with
      | .Subscript x (.Slice l h none _) _ => chkE M n E a x && optB (chkE M n E) lo l && optB (chkE M n E) hi h
      | _ => false)
    | .call f cs => (match e with
      | .Call (.Name x _) es [] _ => callB M E (chkE M n E) f cs x es
      | _ => false)
    | .b1 f a => (match e with
      | .Call (.Name x _) [e] [] _ => decide (biNm f = some x) && freeB M E x && chkE M n E a e && notStar e
      | .Call (.Name x _) [e, .Name y _] [] _ => (match f with
        | .isi ty => strEq x "isinstance" && freeB M E x && tyNm ty y && freeB M E y && chkE M n E a e && notStar e
        | _ => false)
      | _ => false)
    | .b2 f a b => (match e with
      | .Call (.Name x _) [e, e'] [] _ => (match f with
        | .gcd => strEq x "gcd" && M.gcd && glB E.sc x
        | f => decide (biNm2 f = some x) && freeB M E x) && chkE M n E a e && notStar e && chkE M n E b e' && notStar e'
      | _ => false)
    | .comp kind its tg own conds elt => (match e with
      | .ListComp el [⟨tge, it, ifs, 0⟩] scope _ => compB M E (chkE M n) (chkT M n) kind its tg own conds elt el tge it ifs scope
      | _ => false)
    | .tell t c => (match e with
      | .Call (.Name x _) [.Lambda ps body scope _] [] _ => tellB M E t x ps scope && chkE M n ⟨E.N, scope, fun _ => false, false⟩ c body
      | _ => false)
    | .dic => (match e with
      | .Dict [] [] _ => true
      | _ => false)
def chkT (M : Ck) : Nat → CkE → CE → Expr → Bool
  | 0, _, _, _ => false
  | n + 1, E, c, e => match e with
    | .UnaryOp .Not x _ => (match c with
      | .notv a => chkT M n E a x
      | _ => false)
    | .BoolOp .And es _ => (match c with
      | .andv cs => !cs.isEmpty && allB (chkT M n E) cs es
      | _ => false)
    | .BoolOp .Or es _ => (match c with
      | .orv cs => !cs.isEmpty && allB (chkT M n E) cs es
      | _ => false)
    | .Compare l [o] [r] _ => (match c with
      | .cmp op a b => cmEq (cmOf op) o && notSet r && chkE M n E a l && chkE M n E b r
      | _ => false)
    | .Compare l [p1, p2] [m, r] _ => (match c with
      | .chain o1 o2 a b c => cmEq (cmOf o1) p1 && cmEq (cmOf o2) p2 && notSet m && notSet r && chkE M n E a l && chkE M n E b m && chkE M n E c r
      | _ => false)
    | e => plainT e && chkE M n E c e
end
def kindB (sc : Scope) : Bool := match sc.kind with
  | .function => true
  | _ => false
def nodupB : List Str → Bool
  | [] => true
  | x :: xs => !(xs.any fun y => decide (y = x)) && nodupB xs
theorem nodupB_ok : ∀ {xs : List Str}, nodupB xs = true → xs.Nodup
  | [], _ => List.nodup_nil
  | x :: xs, h => by
    obtain ⟨h1, h2⟩ := b2a (show (!(xs.any fun y => decide (y = x)) && nodupB xs) = true from h)
    refine List.nodup_cons.mpr ⟨fun hm => ?_, nodupB_ok h2⟩
    have : (xs.any fun y => decide (y = x)) = true := List.any_eq_true.mpr ⟨x, hm, by simp⟩
    rw [this] at h1
    cases h1
def scopeB (N ps : List Str) (sc : Scope) : Bool := kindB sc && !sc.isCoroutine && !sc.isGenerator && nodupB N && decide (N.take ps.length = ps) && (ps.all fun x => locB sc x) && (sc.names.all fun y => match y.2 with
  | .free => false
  | _ => true)
theorem scope_ok {N ps : List Str} {sc : Scope} (h : scopeB N ps sc = true) : FnScope N ps sc := by
  obtain ⟨h, h7⟩ := b2a h
  obtain ⟨h, h6⟩ := b2a h
  obtain ⟨h, h5⟩ := b2a h
  obtain ⟨h, h4⟩ := b2a h
  obtain ⟨h, h3⟩ := b2a h
  obtain ⟨h1, h2⟩ := b2a h
  refine ⟨?_, ?_, ?_, nodupB_ok h4, of_decide_eq_true h5, fun x hx => ?_, fun y hy e => ?_⟩
  · unfold kindB at h1
    split at h1
    · assumption
    · cases h1
  · cases q : sc.isCoroutine with
    | false => rfl
    | true => rw [q] at h2; cases h2
  · cases q : sc.isGenerator with
    | false => rfl
    | true => rw [q] at h3; cases h3
  · have := List.all_eq_true.mp h6 x hx
    unfold locB at this
    split at this
    · exact .inl (by assumption)
    · exact .inr (by assumption)
    · cases this
  · have := List.all_eq_true.mp h7 y hy
    rw [e] at this
    cases this
/-! ### defs that call what they get -/
def hdB (M : Ck) (sc : Scope) (h : Nat × D) : ExceptHandler → Bool
  | .ExceptHandler (some (.Name e _)) none [.Return (some (.Constant k _ _)) _] _ => atB M.clm h.1 e && glB sc e && okName e && constB k h.2
  | _ => false
def actB (a : Str) : Expr → Bool
  | .Call (.Name b _) [] [] _ => strEq a b
  | _ => false
/-- try: a() / except X: return c, then return d -/
def tlB (M : Ck) (tl : Tl) (st : Stmt) : Bool := match (defArgs st).args.map (·.arg), tl.hs, defBody st with
  | [a], [h], [.Try [.Expr e _] [hd] [] [] _, .Return (some (.Constant k _ _)) _] => scopeB [a] [a] (defScope st) && okName a && !tl.keep && actB a e && hdB M (defScope st) h hd && constB k tl.fin
  | _, _, _ => false
def defn (x : Str) : He.Defn := (x, none)
/-! ### a context that fits -/
structure ClsOk (K : PySem.W.Frag) (mg : Str → Option Value) (x : Str) : Prop where
  at_ : mg x = some (.ref (He.ga K x))
  exc : PySem.W.excIn K (He.ga K x) He.veBase "ValueError.__new__" = true
  kp : PySem.W.keepIn K (.ref (He.ga K x)) = true
  sb : PySem.W.subIn K (.ref (He.ga K x)) (.type "BaseException") = some true
  ty : PySem.W.typeIn K (.ref (He.ga K x)) = some (.type "type")
def ParB (x : Str) (st : Stmt) : Prop := ∀ (kV doc pm : Value) (an : Option Addr) (cdv ct u : Value), ∃ a, (defArgs st).args.map (·.arg) = [a] ∧ bindArgs (PySem.W.fnOf x x (defArgs st) (defBody st) (defScope st) .none kV doc pm an cdv ct) ⟨[u], []⟩ = pure [(a, u)]
/-- what a program's names stand for -/
structure Sta (M : Ck) (Gm : Gx) (xc : Nat → Option XCls) (k : Nat) (P : Program) (w : World) (K : PySem.W.Frag) (mg : Str → Option Value) (base : Heap) : Prop where
  fns : ∀ (f : Nat) (x : Str), M.fnm[f]? = some x → ∃ a, mg x = some (.ref a) ∧ PySem.W.keepIn K (.ref a) = true ∧ FnC P w K mg base xc k a (Gm.fn f)
  gcs : ∀ (g : Nat) (x : Str) (d : D), M.gcn[g]? = some x → Gm.gc g = some d → ∃ v u, mg x = some u ∧ RelV v u ∧ ∀ F, Rp K F v d
  free : ∀ x ∈ M.free, mg x = none
  gcd : M.gcd = true → mg "gcd" = some (.builtin "math.gcd")
  cls : ∀ (c : Nat) (x : Str), M.clm[c]? = some x → ClsOk K mg x ∧ xc c = some ⟨.ref (He.ga K x), none⟩
  xcs : ∀ (c : Nat) (y : XCls), xc c = some y → ∃ x, M.clm[c]? = some x
  sub : ∀ (c h : Nat) (x y : Str), M.clm[c]? = some x → M.clm[h]? = some y → PySem.W.exmOne K (.ref (He.ga K x)) (.ref (He.ga K y)) = some (Gm.sub c h)
  tls : ∀ (t : Nat) (x : Str) (tl : Tl), M.tlm[t]? = some x → Gm.tl t = some tl → (∃ j, k = j + 2) ∧ ∃ a fd st, mg x = some (.ref a) ∧ FunD K x x (defArgs st) (defBody st) (defScope st) [] [] a fd ∧ ParB x st ∧ tlB M tl st = true
  fn2 : ∀ (j : Nat), k = j + 2 → ∀ (f : Nat) (x : Str), M.fnm[f]? = some x → ∃ a, mg x = some (.ref a) ∧ PySem.W.keepIn K (.ref a) = true ∧ FnC P w K mg base xc j a (Gm.fn2 f)
  mkr : ∀ x ∈ M.mkr, LamX.TabB base mg (He.cT K (defn x)).1 (He.cT K (defn x)).2 ∧ ((He.cT K (defn x)).2, x ++ (".<locals>." : Str) ++ ("<lambda>" : Str)) ∈ tabT K
  tnd : ∀ p ∈ tabT K, ∀ q ∈ tabT K, p.1 = q.1 → p.2 = q.2
structure Cg (M : Ck) (Gm : Gx) (xc : Nat → Option XCls) (k : Nat) (E : CkE) (X : Cx) (W : WX) : Prop where
  N : X.N = E.N
  nd : X.N.Nodup
  sc : X.env.scope = E.sc
  kind : E.sc.kind = .function
  calm : X.calm = true
  room : Room k X.A
  gd : X.A.guards = some []
  tk : Takes X W
  fn : ∀ x, E.fn x = true → X.fn x = true
  st : Sta M Gm xc k X.prog X.w X.K X.mg X.base
  lamc : E.lam = true → ∃ c P, X.env.code = .ref c ∧ LamX.TabB X.base X.mg c P ∧ (P, X.env.qual ++ ("<lambda>" : Str)) ∈ tabT X.K
section
variable {M : Ck} {G : Gx} {xc : Nat → Option XCls} {k : Nat} {E : CkE} {X : Cx} {W : WX}
theorem Cg.vis (g : Cg M G xc k E X W) {x : Str} (h : visB E.sc x = true) : Vis X.env.scope x := by
  rw [g.sc]
  unfold visB at h
  split at h
  · exact .inl (by assumption)
  · exact .inr (.inl (by assumption))
  · exact .inr (.inr (by assumption))
  · cases h
theorem Cg.loc (g : Cg M G xc k E X W) {x : Str} (h : locB E.sc x = true) : Loc X.env.scope x := by
  rw [g.sc]
  unfold locB at h
  split at h
  · exact .inl (by assumption)
  · exact .inr (by assumption)
  · cases h
theorem localB_ok {sc : Scope} {x : Str} (h : localB sc x = true) : sc.names.lookup x = some .local := by
  unfold localB at h
  split at h
  · assumption
  · cases h
theorem Cg.hf (g : Cg M G xc k E X W) {x : Str} (h : (E.fn x || localB E.sc x) = true) : X.fn x = true ∨ X.env.scope.names.lookup x = some .local := by
  rcases Bool.or_eq_true_iff.mp h with h | h
  · exact .inl (g.fn x h)
  · rw [g.sc]; exact .inr (localB_ok h)
theorem Cg.gl (g : Cg M G xc k E X W) {x : Str} (h : glB E.sc x = true) : L2.Gl X x := by
  unfold glB at h
  split at h
  · rename_i e
    show X.env.scope.names.lookup x = _
    rw [g.sc]; exact e
  · cases h
theorem Cg.ix (g : Cg M G xc k E X W) {i : Nat} {x : Str} (h : atB E.N i x = true) : X.N[i]? = some x := by
  rw [g.N]; exact of_decide_eq_true h
theorem okName_ok {x : Str} (h : okName x = true) : (x == ("__debug__" : Str)) = false ∧ (x == ("__classdict__" : Str)) = false := by
  obtain ⟨h1, h2⟩ := b2a h
  exact ⟨by simpa using h1, by simpa using h2⟩
theorem Cg.freeN (g : Cg M G xc k E X W) {x : Str} (h : freeB M E x = true) : L2.Gl X x ∧ X.mg x = none := by
  obtain ⟨h1, h2⟩ := b2a h
  exact ⟨g.gl h1, g.st.free x (of_decide_eq_true h2)⟩
theorem Cg.blk (g : Cg M G xc k E X W) {scope : Scope} (hk : scope.kind = .function) (s : Shared) (H : Hp) (C : Addr) (cl : List (Str × Addr)) (fp : List Addr) : Cg M G xc k (E.blk scope) (X.blk s H scope (compEnvC scope cl C X.env) fp) WF0 where
  N := g.N
  nd := g.nd
  sc := by
    show relS scope X.env.scope = relS scope E.sc
    rw [g.sc]
  kind := hk
  calm := g.calm
  room := g.room
  gd := g.gd
  tk := fun u s' ⟨a, B, sI, pins, σ, H, cls, d, _, _, _, _, _, _, _, _, z⟩ => z.elim
  fn := fun x h => by
    show (scope.names.lookup x == some .cell) = true
    have h : (match scope.names.lookup x with
      | some .cell => true
      | _ => false) = true := h
    split at h
    · rename_i e
      rw [e]
      rfl
    · cases h
  st := g.st
  lamc := fun h => by cases h
theorem opEq_ok {a b : Operator} (h : opEq a b = true) : a = b := by
  cases a <;> cases b <;> first | rfl | cases h
theorem cmEq_ok {a b : CmpOp} (h : cmEq a b = true) : a = b := by
  cases a <;> cases b <;> first | rfl | cases h
theorem notSet_ok {op : CmpOp} {e : Expr} (h : notSet e = true) : behindInMarks op e = false := by
  cases e <;> first | rfl | cases h
theorem constB_ok {c : Const} {d : D} (h : constB c d = true) : constD c = some d := by
  unfold constB at h
  split at h
  · rfl
  · rw [beq_iff_eq.mp h]; rfl
  · rw [of_decide_eq_true h]; rfl
  · rw [of_decide_eq_true h]; rfl
  · cases h
theorem notSet_fold {e : Expr} {env : PySem.Env} (h : notSet e = true) : ∀ x, foldedSetIterable e env x = pure x := by
  intro x
  cases e <;> first | rfl | cases h
/-! ### targets -/
theorem assignEach_map {env : PySem.Env} {e : Expr} {es : List Expr} (h : notStar e = true) : assignEach (e :: es) env = (false, assign e env) :: assignEach es env := by
  cases e <;> first | rfl | cases h
mutual
theorem chkG_ok (g : Cg M G xc k E X W) : ∀ (t : Tg) (e : Expr), chkG E t e = true → PG X e (gOf X.K t)
  | .nm i, e, h => by
    cases e with
    | Name x p =>
      rw [chkG] at h
      obtain ⟨h, h3⟩ := b2a h
      obtain ⟨h1, h2⟩ := b2a h
      rw [gOf]
      exact pg_name g.nd (g.ix h1) (g.loc h2) (g.hf h3)
    | _ => simp [chkG] at h
  | .tup ts, e, h => by
    cases e with
    | Tuple es k p =>
      rw [chkG] at h
      obtain ⟨h1, h2, h3⟩ := chkGs_ok g ts es h
      rw [gOf]
      exact pg_tup g.calm h1 h2 h3
    | _ => simp [chkG] at h
theorem chkGs_ok (g : Cg M G xc k E X W) : ∀ (ts : List Tg) (es : List Expr), chkGs E ts es = true → PGs X es (gsOf X.K ts) ∧ (assignEach es X.env).length = ts.length ∧ (assignEach es X.env).findIdx? (·.1) = none
  | [], es, h => by
    cases es with
    | nil => rw [gsOf]; exact ⟨pgs_nil, rfl, rfl⟩
    | cons _ _ => simp [chkGs] at h
  | t :: ts, es, h => by
    cases es with
    | nil => simp [chkGs] at h
    | cons e es =>
      rw [chkGs] at h
      obtain ⟨h, h3⟩ := b2a h
      obtain ⟨h1, h2⟩ := b2a h
      obtain ⟨k1, k2, k3⟩ := chkGs_ok g ts es h3
      rw [gsOf]
      refine ⟨pgs_cons (chkG_ok g t e h2) k1 (by rw [assignEach_map h1]; rfl), ?_, ?_⟩
      · rw [assignEach_map h1, List.length_cons, List.length_cons, k2]
      · rw [assignEach_map h1, List.findIdx?_cons, k3]
        rfl
end
end
end Zw
set_option Elab.async false
set_option linter.all false
set_option maxRecDepth 100000
/-! Zw11: the check of expressions is sound. -/
namespace Zw
open PySem PySem.Spec PyProof.Rows L2
section
variable {M : Ck} {G : Gx} {xc : Nat → Option XCls} {k : Nat} {E : CkE} {X : Cx} {W : WX}
theorem all_L {f : CE → Expr → Bool} (hf : ∀ c e, f c e = true → PE X e (tM X.K xc W (ev G c))) : ∀ {cs : List CE} {es : List Expr}, allB f cs es = true → es.all notStar = true → PA X es (tML X.K xc W (evl G cs))
  | [], [], _, _ => l_nil
  | [], _ :: _, h, _ => absurd h Bool.false_ne_true
  | _ :: _, [], h, _ => absurd h Bool.false_ne_true
  | c :: cs, e :: es, h, hs => by
    obtain ⟨h1, h2⟩ := b2a (show (f c e && allB f cs es) = true from h)
    rw [List.all_cons] at hs
    obtain ⟨s1, s2⟩ := b2a hs
    exact l_cons (hf c e h1) (all_L hf h2 s2) s1
theorem star_D {f : CE → Expr → Bool} (hf : ∀ c e, f c e = true → PE X e (tM X.K xc W (ev G c))) : ∀ {cs : List (Bool × CE)} {es : List Expr}, starB f cs es = true → PA X es (tMD X.K xc W (evs G cs))
  | [], [], _ => d_nil
  | [], _ :: _, h => by simp [starB] at h
  | (true, c) :: cs, [], h => by simp [starB] at h
  | (false, c) :: cs, [], h => by simp [starB] at h
  | (true, c) :: cs, e :: es, h => by
    cases e with
    | Starred e p =>
      rw [starB] at h
      obtain ⟨h1, h2⟩ := b2a h
      exact d_star (hf c e h1) (star_D hf h2)
    | _ => simp [starB] at h
  | (false, c) :: cs, e :: es, h => by
    rw [starB] at h
    obtain ⟨h, h3⟩ := b2a h
    obtain ⟨h1, h2⟩ := b2a h
    exact d_cons (hf c e h2) (star_D hf h3) (starEach_plain h1)
theorem opt_O {f : CE → Expr → Bool} (hf : ∀ c e, f c e = true → PE X e (tM X.K xc W (ev G c))) {c : Option CE} {e : Option Expr} (h : optB f c e = true) : PO X e (tMO X.K xc W (evO G c)) := by
  cases c with
  | none => cases e with
    | none => exact o_none
    | some e => exact absurd h Bool.false_ne_true
  | some c => cases e with
    | none => exact absurd h Bool.false_ne_true
    | some e => exact o_some (hf c e h)
theorem and_E {f : CE → Expr → Bool} {p : Pos} (hf : ∀ c e, f c e = true → PE X e (tM X.K xc W (ev G c))) : ∀ {cs : List CE} {es : List Expr}, allB f cs es = true → cs ≠ [] → PE X (.BoolOp .And es p) (tM X.K xc W (ev G (.andv cs)))
  | [], _, _, n => absurd rfl n
  | _ :: _, [], h, _ => absurd h Bool.false_ne_true
  | [c], [e], h, _ => by
    obtain ⟨h1, _⟩ := b2a (show (f c e && allB f [] []) = true from h)
    have e1 : ev G (.andv [c]) = ev G c := by funext ρ s; rw [ev, evAnd]
    rw [e1]
    exact r_and1 (hf c e h1)
  | [c], e :: e' :: es, h, _ => by
    obtain ⟨_, h2⟩ := b2a (show (f c e && allB f [] (e' :: es)) = true from h)
    exact absurd h2 Bool.false_ne_true
  | c :: c' :: cs, [e], h, _ => by
    obtain ⟨_, h2⟩ := b2a (show (f c e && allB f (c' :: cs) []) = true from h)
    exact absurd h2 Bool.false_ne_true
  | c :: c' :: cs, e :: e' :: es, h, _ => by
    obtain ⟨h1, h2⟩ := b2a (show (f c e && allB f (c' :: cs) (e' :: es)) = true from h)
    exact r_and (hf c e h1) (and_E hf h2 (by simp))
theorem or_E {f : CE → Expr → Bool} {p : Pos} (hf : ∀ c e, f c e = true → PE X e (tM X.K xc W (ev G c))) : ∀ {cs : List CE} {es : List Expr}, allB f cs es = true → cs ≠ [] → PE X (.BoolOp .Or es p) (tM X.K xc W (ev G (.orv cs)))
  | [], _, _, n => absurd rfl n
  | _ :: _, [], h, _ => absurd h Bool.false_ne_true
  | [c], [e], h, _ => by
    obtain ⟨h1, _⟩ := b2a (show (f c e && allB f [] []) = true from h)
    have e1 : ev G (.orv [c]) = ev G c := by funext ρ s; rw [ev, evOr]
    rw [e1]
    exact r_and1 (hf c e h1)
  | [c], e :: e' :: es, h, _ => by
    obtain ⟨_, h2⟩ := b2a (show (f c e && allB f [] (e' :: es)) = true from h)
    exact absurd h2 Bool.false_ne_true
  | c :: c' :: cs, [e], h, _ => by
    obtain ⟨_, h2⟩ := b2a (show (f c e && allB f (c' :: cs) []) = true from h)
    exact absurd h2 Bool.false_ne_true
  | c :: c' :: cs, e :: e' :: es, h, _ => by
    obtain ⟨h1, h2⟩ := b2a (show (f c e && allB f (c' :: cs) (e' :: es)) = true from h)
    exact r_or (hf c e h1) (or_E hf h2 (by simp))
theorem and_T {f : CE → Expr → Bool} {p : Pos} (hf : ∀ c e, f c e = true → PT X e (tMT X.K xc W (evT G c))) : ∀ {cs : List CE} {es : List Expr}, allB f cs es = true → cs ≠ [] → PW X (.BoolOp .And es p) (tMT X.K xc W (evT G (.andv cs)))
  | [], _, _, n => absurd rfl n
  | _ :: _, [], h, _ => absurd h Bool.false_ne_true
  | [c], [e], h, _ => by
    obtain ⟨h1, _⟩ := b2a (show (f c e && allB f [] []) = true from h)
    exact t_and1 (hf c e h1)
  | [c], e :: e' :: es, h, _ => by
    obtain ⟨_, h2⟩ := b2a (show (f c e && allB f [] (e' :: es)) = true from h)
    exact absurd h2 Bool.false_ne_true
  | c :: c' :: cs, [e], h, _ => by
    obtain ⟨_, h2⟩ := b2a (show (f c e && allB f (c' :: cs) []) = true from h)
    exact absurd h2 Bool.false_ne_true
  | c :: c' :: cs, e :: e' :: es, h, _ => by
    obtain ⟨h1, h2⟩ := b2a (show (f c e && allB f (c' :: cs) (e' :: es)) = true from h)
    exact t_and (hf c e h1) (and_T hf h2 (by simp))
theorem or_T {f : CE → Expr → Bool} {p : Pos} (hf : ∀ c e, f c e = true → PT X e (tMT X.K xc W (evT G c))) : ∀ {cs : List CE} {es : List Expr}, allB f cs es = true → cs ≠ [] → PW X (.BoolOp .Or es p) (tMT X.K xc W (evT G (.orv cs)))
  | [], _, _, n => absurd rfl n
  | _ :: _, [], h, _ => absurd h Bool.false_ne_true
  | [c], [e], h, _ => by
    obtain ⟨h1, _⟩ := b2a (show (f c e && allB f [] []) = true from h)
    exact t_or1 (hf c e h1)
  | [c], e :: e' :: es, h, _ => by
    obtain ⟨_, h2⟩ := b2a (show (f c e && allB f [] (e' :: es)) = true from h)
    exact absurd h2 Bool.false_ne_true
  | c :: c' :: cs, [e], h, _ => by
    obtain ⟨_, h2⟩ := b2a (show (f c e && allB f (c' :: cs) []) = true from h)
    exact absurd h2 Bool.false_ne_true
  | c :: c' :: cs, e :: e' :: es, h, _ => by
    obtain ⟨h1, h2⟩ := b2a (show (f c e && allB f (c' :: cs) (e' :: es)) = true from h)
    exact t_or (hf c e h1) (or_T hf h2 (by simp))
theorem notEmpty {α : Type} {cs : List α} (h : (!cs.isEmpty) = true) : cs ≠ [] := by
  intro e
  rw [e] at h
  cases h
/-! ### calls -/
theorem call_ok (g : Cg M G xc k E X W) {f : CE → Expr → Bool} (hf : ∀ c e, f c e = true → PE X e (tM X.K xc W (ev G c))) {i : Nat} {cs : List CE} {x : Str} {es : List Expr} {p pos : Pos} (h : callB M E f i cs x es = true) :
    PE X (.Call (.Name x p) es [] pos) (tM X.K xc W (ev G (.call i cs))) := by
  obtain ⟨h, h5⟩ := b2a h
  obtain ⟨h, h4⟩ := b2a h
  obtain ⟨h, h3⟩ := b2a h
  obtain ⟨h1, h2⟩ := b2a h
  obtain ⟨a, e1, e2, e3⟩ := g.st.fns i x (of_decide_eq_true h1)
  have hd := (okName_ok h3).1
  cases es with
  | nil =>
    cases cs with
    | cons _ _ => exact absurd h5 Bool.false_ne_true
    | nil =>
      have e : ev G (.call i []) = fun ρ s => callS (G.fn i) [] s := by
        funext ρ s
        rw [ev, evl]
        rfl
      rw [e]
      exact pe_callM0 e3 g.room g.gd g.tk (g.gl h2) e1 e2 hd
  | cons e es =>
    have ha := all_L hf h5 h4
    rw [List.all_cons] at h4
    obtain ⟨s1, s2⟩ := b2a h4
    have ee : ev G (.call i cs) = fun ρ s => (evl G cs ρ s).bind fun bs s => callS (G.fn i) bs s := by
      funext ρ s
      rw [ev]
    rw [ee]
    exact pe_callM e3 g.room g.gd g.tk (g.gl h2) e1 e2 ha hd (starEach_plain s1) (backTo_plain s2)
theorem free_ok {x : Str} (g : Cg M G xc k E X W) {s : Str} (e : some s = some x) (h : freeB M E x = true) : L2.Gl X s ∧ X.mg s = none := by
  cases e
  exact g.freeN h
theorem b1_ok (g : Cg M G xc k E X W) {f : Bi} {c : CE} {x : Str} {e : Expr} {p pos : Pos} (hn : biNm f = some x) (hx : freeB M E x = true) (he : PE X e (tM X.K xc W (ev G c))) (hs : notStar e = true) :
    PE X (.Call (.Name x p) [e] [] pos) (tM X.K xc W (ev G (.b1 f c))) := by
  have fr := g.freeN hx
  have ha := pa_cons he pa_nil (starEach_plain (env := X.env) hs)
  cases f with
  | len => cases hn; exact r_b1 (pe_callB call_lenA fr.1 fr.2 (by decide +kernel) ha (he := starEach_plain hs) (hpl := backTo_plain rfl)) fun _ _ _ _ _ _ _ _ r hx h => hop_len r hx h
  | abs => cases hn; exact r_b1 (pe_callB call_abs fr.1 fr.2 (by decide +kernel) ha (he := starEach_plain hs) (hpl := backTo_plain rfl)) fun _ _ _ _ _ _ _ _ r hx h => hop_abs r hx h
  | int => cases hn; exact r_b1 (pe_callTy call_int1 fr.1 fr.2 (by decide +kernel) ha (he := starEach_plain hs) (hpl := backTo_plain rfl)) fun _ _ _ _ _ _ _ _ r hx h => hop_int r hx h
  | all => cases hn; exact r_b1 (pe_callB (cr_all g.calm) fr.1 fr.2 (by decide +kernel) ha (he := starEach_plain hs) (hpl := backTo_plain rfl)) fun _ _ _ _ _ _ _ _ r hx h => hop_all r hx h
  | any => cases hn; exact r_b1 (pe_callB (cr_any g.calm) fr.1 fr.2 (by decide +kernel) ha (he := starEach_plain hs) (hpl := backTo_plain rfl)) fun _ _ _ _ _ _ _ _ r hx h => hop_any r hx h
  | repr => cases hn; exact r_b1 (pe_callB (call_reprA g.room g.gd) fr.1 fr.2 (by decide +kernel) ha (he := starEach_plain hs) (hpl := backTo_plain rfl)) fun _ _ _ _ _ _ _ _ r hx h => hop_repr r hx h
  | tuple => cases hn; exact r_b1 (pe_callTy call_tuple_of fr.1 fr.2 (by decide +kernel) ha (he := starEach_plain hs) (hpl := backTo_plain rfl)) fun _ _ _ _ _ _ _ _ r hx h => hop_tuple r hx h
  | list => cases hn; exact r_b1 (pe_callTy call_list_of fr.1 fr.2 (by decide +kernel) ha (he := starEach_plain hs) (hpl := backTo_plain rfl)) fun _ _ _ _ _ _ _ _ r hx h => hop_list r hx h
  | sum => cases hn; exact r_b1 (pe_callB (cr_sum g.calm) fr.1 fr.2 (by decide +kernel) ha (he := starEach_plain hs) (hpl := backTo_plain rfl)) fun _ _ _ _ _ _ _ _ r hx h => hop_sum r hx h
  | max2 => cases hn
  | min2 => cases hn
  | gcd => cases hn
  | isi ty => cases hn
theorem b2_ok (g : Cg M G xc k E X W) {f : Bi} {c c' : CE} {x : Str} {e e' : Expr} {p pos : Pos} (hn : biNm2 f = some x) (hx : freeB M E x = true) (he : PE X e (tM X.K xc W (ev G c))) (hs : notStar e = true) (he' : PE X e' (tM X.K xc W (ev G c'))) (hs' : notStar e' = true) :
    PE X (.Call (.Name x p) [e, e'] [] pos) (tM X.K xc W (ev G (.b2 f c c'))) := by
  have fr := g.freeN hx
  have ha := pa_cons he (pa_cons he' pa_nil (starEach_plain (env := X.env) hs')) (starEach_plain (env := X.env) hs)
  have hp : (backTo pos (starEach [e'] X.env)).any (·.1) = false := backTo_plain (by simp [hs'])
  cases f with
  | max2 => cases hn; exact r_b2 (pe_callB (call_max2 g.calm) fr.1 fr.2 (by decide +kernel) ha (he := starEach_plain hs) (hpl := hp)) fun _ _ _ _ _ _ _ _ _ _ r hx hy h => hop_2I rfl r hx hy h
  | min2 => cases hn; exact r_b2 (pe_callB (call_min2 g.calm) fr.1 fr.2 (by decide +kernel) ha (he := starEach_plain hs) (hpl := hp)) fun _ _ _ _ _ _ _ _ _ _ r hx hy h => hop_2I rfl r hx hy h
  | _ => cases hn
theorem gcd_ok (g : Cg M G xc k E X W) {c c' : CE} {e e' : Expr} {p pos : Pos} (hm : X.mg "gcd" = some (.builtin "math.gcd")) (hg : L2.Gl X "gcd") (he : PE X e (tM X.K xc W (ev G c))) (hs : notStar e = true) (he' : PE X e' (tM X.K xc W (ev G c'))) (hs' : notStar e' = true) :
    PE X (.Call (.Name "gcd" p) [e, e'] [] pos) (tM X.K xc W (ev G (.b2 .gcd c c'))) :=
  r_b2 (pe_callBfun cr_gcd hg hm (pa_cons he (pa_cons he' pa_nil (starEach_plain (env := X.env) hs')) (starEach_plain (env := X.env) hs)) (he := starEach_plain hs) (hpl := backTo_plain (by simp [hs'])))
    fun _ _ _ _ _ _ _ _ _ _ r hx hy h => by
      obtain ⟨i, j, e, q⟩ := hop_2I (f := fun i j => (Int.gcd i j : Nat)) rfl r hx hy h
      exact ⟨i, j, e, q⟩
theorem isi_ok (g : Cg M G xc k E X W) {ty : Ty} {c : CE} {y : Str} {e : Expr} {p p2 pos : Pos} (hi : freeB M E "isinstance" = true) (hy : tyNm ty y = true) (hf : freeB M E y = true) (he : PE X e (tM X.K xc W (ev G c))) (hs : notStar e = true) :
    PE X (.Call (.Name "isinstance" p) [e, .Name y p2] [] pos) (tM X.K xc W (ev G (.b1 (.isi ty) c))) := by
  unfold tyNm at hy
  cases q : ty.name with
  | none => rw [q] at hy; cases hy
  | some n =>
    rw [q] at hy
    have e1 : y = Str.ofString n := of_decide_eq_true hy
    subst e1
    have fr := g.freeN hf
    refine r_isi q he (g.freeN hi).1 (g.freeN hi).2 ?_ hs
    cases ty <;> cases q <;> exact pe_bltn fr.1 fr.2 (by decide +kernel) rfl
/-! ### comprehensions -/
theorem it_ok (g : Cg M G xc k E X W) {f : CE → Expr → Bool} (hf : ∀ c e, f c e = true → PE X e (tM X.K xc W (ev G c))) {kind : Nat} {its : List CE} {it tg : Expr} (h : itB M E f tg kind its it = true) :
    PI X tg it (tMI X.K xc W (wkM G kind its)) ∧ ∀ x, foldedSetIterable it X.env x = pure x := by
  unfold itB at h
  split at h
  · obtain ⟨h1, h2⟩ := b2a h
    exact ⟨i_items (hf _ _ h1), notSet_fold h2⟩
  · obtain ⟨h, h4⟩ := b2a h
    obtain ⟨h, h3⟩ := b2a h
    obtain ⟨h1, h2⟩ := b2a h
    have e := of_decide_eq_true h1
    subst e
    have fr := g.freeN h2
    exact ⟨i_range1 fr.1 fr.2 (l_cons (hf _ _ h3) l_nil h4) h4, notSet_fold rfl⟩
  · obtain ⟨h, h6⟩ := b2a h
    obtain ⟨h, h5⟩ := b2a h
    obtain ⟨h, h4⟩ := b2a h
    obtain ⟨h, h3⟩ := b2a h
    obtain ⟨h1, h2⟩ := b2a h
    have e := of_decide_eq_true h1
    subst e
    have fr := g.freeN h2
    exact ⟨i_range2 fr.1 fr.2 (l_cons (hf _ _ h3) (l_cons (hf _ _ h5) l_nil h6) h4) h4 h6, notSet_fold rfl⟩
  · obtain ⟨h, h5⟩ := b2a h
    obtain ⟨h, h4⟩ := b2a h
    obtain ⟨h, h3⟩ := b2a h
    obtain ⟨h1, h2⟩ := b2a h
    have e : _ = ("enumerate" : Str) := of_decide_eq_true h1
    subst e
    have fr := g.freeN h2
    unfold isTupE at h5
    split at h5
    · exact ⟨i_enum fr.1 fr.2 (l_cons (hf _ _ h3) l_nil h4) h4, notSet_fold rfl⟩
    · cases h5
  · obtain ⟨h, h7⟩ := b2a h
    obtain ⟨h, h6⟩ := b2a h
    obtain ⟨h, h5⟩ := b2a h
    obtain ⟨h, h4⟩ := b2a h
    obtain ⟨h, h3⟩ := b2a h
    obtain ⟨h1, h2⟩ := b2a h
    have e : _ = ("zip" : Str) := of_decide_eq_true h1
    subst e
    have fr := g.freeN h2
    unfold isTupE at h7
    split at h7
    · exact ⟨i_zip fr.1 fr.2 (l_cons (hf _ _ h3) (l_cons (hf _ _ h5) l_nil h6) h4) h4 h6, notSet_fold rfl⟩
    · cases h7
  · cases h
/-- the parts of a comprehension -/
structure CompOk (M : Ck) (G : Gx) (xc : Nat → Option XCls) (X : Cx) (W : WX) (kind : Nat) (its : List CE) (tg : Tg) (own : List Nat) (conds : List CE) (elt : CE) (el tge ite : Expr) (ifs : List Expr) (scope : Scope) (ow : List (Str × Nat)) : Prop where
  it : PI X tge ite (tMI X.K xc W (wkM G kind its))
  fs : ∀ x, foldedSetIterable ite X.env x = pure x
  bo : BlkOk X.N X.env.scope scope ow
  ow : ow.map (·.2) = own
  sl : ∀ i ∈ tg.slots, i ∈ own
  tg : ∀ (s : Shared) (H : Hp) (C : Addr) (cl : List (Str × Addr)) (fp : List Addr), PG (X.blk s H scope (compEnvC scope cl C X.env) fp) tge (gOf X.K tg)
  cd : ∀ (s : Shared) (H : Hp) (C : Addr) (cl : List (Str × Addr)) (fp : List Addr), PTs (X.blk s H scope (compEnvC scope cl C X.env) fp) ifs (tMT X.K xc WF0 (evConds G conds))
  el : ∀ (s : Shared) (H : Hp) (C : Addr) (cl : List (Str × Addr)) (fp : List Addr), PE (X.blk s H scope (compEnvC scope cl C X.env) fp) el (tM X.K xc WF0 (ev G elt))
theorem comp_ok (g : Cg M G xc k E X W) {f t : CkE → CE → Expr → Bool} (hf : ∀ E X W c e, Cg M G xc k E X W → f E c e = true → PE X e (tM X.K xc W (ev G c))) (ht : ∀ E X W c e, Cg M G xc k E X W → t E c e = true → PT X e (tMT X.K xc W (evT G c)))
    {kind : Nat} {its : List CE} {tg : Tg} {own : List Nat} {conds : List CE} {elt : CE} {el tge it : Expr} {ifs : List Expr} {scope : Scope} (h : compB M E f t kind its tg own conds elt el tge it ifs scope = true) :
    CompOk M G xc X W kind its tg own conds elt el tge it ifs scope (ownOf E.N own) := by
  obtain ⟨h, h7⟩ := b2a h
  obtain ⟨h, h6⟩ := b2a h
  obtain ⟨h, h5⟩ := b2a h
  obtain ⟨h, h4⟩ := b2a h
  obtain ⟨h, h3⟩ := b2a h
  obtain ⟨h1, h2⟩ := b2a h
  have bo := blkOk_by h2
  obtain ⟨i1, i2⟩ := it_ok g (fun c e => hf E X W c e g) h1
  have gb := fun s H C cl fp => g.blk bo.kind s H C cl fp
  refine ⟨i1, i2, by rw [g.N, g.sc]; exact bo, of_decide_eq_true h3, fun i hi => of_decide_eq_true (List.all_eq_true.mp h4 i hi), fun s H C cl fp => chkG_ok (gb s H C cl fp) tg tge h5, fun s H C cl fp => ?_, fun s H C cl fp => hf _ _ _ _ _ (gb s H C cl fp) h7⟩
  split at h6
  · exact ts_nil
  · exact ts_one (ht _ _ _ _ _ (gb s H C cl fp) h6)
  · cases h6
/-! ### what a lambda does is told -/
theorem r_dic {pos : Pos} : PE X (.Dict [] [] pos) (tM X.K xc W (ev G .dic)) := PE.weak pe_dnewK fun σ H Q ⟨F, μ, S, ρ, rel, er, h⟩ p hp => okE_dic (show okE X.K xc μ W F H σ (.ok (.t .dic) S) Q by rw [ev] at h; exact h) rel hp
theorem const_v {k : Const} {d : D} (h : constD k = some d) : ∃ v, (∀ (X : Cx) (j : Nat) (pos : Pos), PE X (.Constant k j pos) (tC v)) ∧ ∀ K F, Rp K F v d := by
  unfold constD at h
  split at h
  · cases h; exact ⟨.non, fun X j pos => pe_non, fun _ _ => .non⟩
  · cases h; exact ⟨.bl _, fun X j pos => pe_bl, fun _ _ => .bl _⟩
  · cases h; exact ⟨.int _, fun X j pos => pe_int, fun _ _ => .int _⟩
  · cases h; exact ⟨.str _, fun X j pos => pe_str, fun _ _ => .str _⟩
  · cases h
def TTell (K : PySem.W.Frag) (C : Addr) (v1 v2 : V) : (XK → Hp → VK → Prop) → Hp → VK → Prop := fun tl H Q =>
  tl (fun cls _ H' => ∃ b, PySem.W.exmOne K cls (.ref C) = some b ∧ (b = true → Q v1 H') ∧ (b = false → False)) H fun _ H' => Q v2 H'
theorem tell_gives {Ng : List Str} {x a e q : Str} {sg : Scope} {gz C : Addr} {cz : Value} {k1 k2 : Const} {v1 v2 : V} {j1 j2 : Nat} {p1 p2 p3 p4 p5 p6 p7 p8 p9 p10 : Pos} (h1 : ∀ (X : Cx) (j : Nat) (pos : Pos), PE X (.Constant k1 j pos) (tC v1)) (h2 : ∀ (X : Cx) (j : Nat) (pos : Pos), PE X (.Constant k2 j pos) (tC v2))
    (hge : sg.names.lookup e = some .globalImplicit) (hme : X.mg e = some (.ref C)) (hde : (e == ("__debug__" : Str)) = false) :
    LamX.GivesTo X Ng x sg gz cz [.Try [.Expr (.Call (.Name a p1) [] [] p2) p3] [.ExceptHandler (some (.Name e p4)) none [.Return (some (.Constant k1 j1 p5)) p6] p7] [] [] p8, .Return (some (.Constant k2 j2 p9)) p10] a q (TTell X.K C v1 v2) := by
  intro fo co s H Q tl act hc h
  have gl : L2.Gl (cxOf C8.CX0 X.prog X.w X.K X.mg X.base Ng x sg gz cz X.A X.stack s H C8.E0).nox e := hge
  refine ⟨_, pss_cons (ps_try_only (X := (cxOf C8.CX0 X.prog X.w X.K X.mg X.base Ng x sg gz cz X.A X.stack s H C8.E0).nox) (c := .ref C)
    (tb := fun W D σ H => ∃ Ec : XK, (∀ cls d σ' H', Ec cls d H' → W cls d σ' H') ∧ σ[0]? = some (some (.ref fo)) ∧ H co = some (LamX.CodeO co q) ∧ tl Ec H fun _ H' => D.nx σ H')
    rfl rfl ⟨gl, hde, .inl hme⟩ LamX.takes0 (fun W pn xe tk _ => ⟨fun pz s' σ H' D I ⟨Ec, hW, a1, a2, a3⟩ => ?_⟩) (fun a oe cls d pn _ _ => pss_one (ps_ret (h1 _ _ _)))) (pss_one (ps_ret (h2 _ _ _))), ?_⟩
  · exact (pss_one (ps_expr (pos := p3) (act W pn xe Ec p1 p2 tk hW))).run pz s' σ H' D I ⟨a1, a2, a3⟩
  · exact ⟨fun cls _ H' => ∃ b, PySem.W.exmOne X.K cls (.ref C) = some b ∧ (b = true → Q v1 H') ∧ (b = false → False), fun cls d σ' H' ⟨b, e1, e2, e3⟩ => ⟨b, e1, fun hb a _ => e2 hb, fun hb => e3 hb⟩, rfl, hc, h⟩
theorem extN_rel {K : PySem.W.Frag} {F H H1 : Hp} {μ : List Addr} {S : Store} (r : Rel K F μ S H) (e : LamX.ExtN H H1) (t : LamX.Tabs (tabT K) H1) : Rel K F μ S H1 ∧ Ext μ F H F H1 := by
  refine ⟨⟨fun a u h => e a u (r.sub a u h) (r.ft a u h), r.len, r.nd, fun k a xs h1 h2 => ?_, r.dis, r.ft, t⟩, fun a u h => h, fun a h => rfl, fun a u h n _ => e a u h n, fun a h g => ?_⟩
  · obtain ⟨vs, a1, a2⟩ := r.obj k a xs h1 h2
    exact ⟨vs, e a _ a1 (fun _ z => by cases z), a2⟩
  · exact h fun o h1 n => g o (e a o h1 n) n
/-- what is told, of what the lambda does -/
theorem tell_rd {c : CE} {tl : Tl} {h0 : Nat × D} {v1 v2 : V} {e : Str} (st : Sta M G xc k X.prog X.w X.K X.mg X.base) (hk : tl.keep = false) (hh : tl.hs = [h0]) (he : M.clm[h0.1]? = some e) (r1 : ∀ K F, Rp K F v1 h0.2) (r2 : ∀ K F, Rp K F v2 tl.fin) {σ : L2.St} {H : Hp} {Q : VK}
    (h : tM X.K xc W (fun ρ s => tellR G.sub tl (ev G.low c ρ s)) σ H Q) :
    LamX.tLam (tabT X.K) (TTell X.K (He.ga X.K e) v1 v2) (fun E => tM X.K xc (fun cls d _ H => E cls d H) (ev G.low c)) σ H Q := by
  obtain ⟨F, μ, S, ρ, rel, er, h⟩ := h
  refine ⟨rel.tab, fun H1 eN T1 => ?_⟩
  obtain ⟨rel1, x1⟩ := extN_rel rel eN T1
  refine ⟨F, μ, S, ρ, rel1, er.step x1, ?_⟩
  cases q : ev G.low c ρ S with
  | bad => simp only [q, tellR] at h; exact h.elim
  | ok b S' =>
    simp only [q, tellR, hk, Bool.false_eq_true, if_false] at h
    exact fun F' H' v x r bv fr => h F' H' v2 (x1.trans x) r (r2 _ _) trivial
  | ex cc p S' =>
    simp only [q, tellR, hh, tlFind] at h
    intro F' H' cls d x r xr
    obtain ⟨y, hy, ec, _⟩ := xr
    obtain ⟨n, hn⟩ := st.xcs cc y hy
    obtain ⟨_, hc⟩ := st.cls cc n hn
    rw [hy] at hc
    cases hc
    refine ⟨G.sub cc h0.1, by rw [ec]; exact st.sub cc h0.1 n e hn he, fun z => ?_, fun z => ?_⟩
    · rw [z] at h
      exact h F' H' v1 (x1.trans x) r (r1 _ _) trivial
    · rw [z] at h
      exact h
theorem noArgs_ok {ps : Arguments} (h : noArgs ps = true) : ps = ⟨[], [], none, [], [], none, []⟩ := by
  unfold noArgs at h
  split at h
  · rfl
  · cases h
theorem fnC_bad {P : Program} {w : World} {K : PySem.W.Frag} {mg : Str → Option Value} {base : Heap} {a : Addr} : FnC P w K mg base xc k a (fun _ _ => .bad) := ⟨fun A outer s H us vs F μ S bs Q E hr hgd e0 rv rel brs hok => hok.elim⟩
theorem low_sta {j : Nat} {P : Program} {w : World} {K : PySem.W.Frag} {mg : Str → Option Value} {base : Heap} (st : Sta M G xc (j + 2) P w K mg base) : Sta M G.low xc j P w K mg base where
  fns := fun f x h => st.fn2 j rfl f x h
  gcs := st.gcs
  free := st.free
  gcd := st.gcd
  cls := st.cls
  xcs := st.xcs
  sub := st.sub
  tls := fun t x tl _ h => by cases h
  fn2 := fun i _ f x h => by
    obtain ⟨a, h1, h2, _⟩ := st.fns f x h
    exact ⟨a, h1, h2, fnC_bad⟩
  mkr := st.mkr
  tnd := st.tnd
theorem takes_lam {A : Around} {outer : List PySem.Env} {s : Shared} {H : Hp} {E : XK} {sc : Scope} {fo co : Addr} : Takes (LamX.lamCx X A outer s H E sc fo co) (fun cls d _ H => E cls d H) := takes_of rfl rfl rfl rfl
theorem tell_ok (g : Cg M G xc k E X W) {t : Nat} {c : CE} {x : Str} {ps : Arguments} {body : Expr} {sc : Scope} {p lp pos : Pos} (h : tellB M E t x ps sc = true)
    (hb : ∀ j X' W', Cg M G.low xc j ⟨E.N, sc, fun _ => false, false⟩ X' W' → PE X' body (tM X'.K xc W' (ev G.low c))) : PE X (.Call (.Name x p) [.Lambda ps body sc lp] [] pos) (tM X.K xc W (ev G (.tell t c))) := by
  obtain ⟨h, h6⟩ := b2a h
  obtain ⟨h, h5⟩ := b2a h
  obtain ⟨h, h4⟩ := b2a h
  obtain ⟨h, h3⟩ := b2a h
  obtain ⟨h1, h2⟩ := b2a h
  cases q : G.tl t with
  | none => exact ⟨fun pins s σ H Q I ⟨F, μ, S, ρ, rel, er, z⟩ => by rw [ev, q] at z; exact z.elim⟩
  | some tl =>
  obtain ⟨⟨j, hj⟩, a, fd, st, hmg, FD, hpar, htl⟩ := g.st.tls t x tl (of_decide_eq_true h1) q
  subst hj
  obtain ⟨cc, P, c1, c2, c3⟩ := g.lamc h4
  have L : LamX.LamS X.env.scope sc := LamX.lamS_by (by rw [g.sc]; exact h5)
  have eps := noArgs_ok h6
  subst eps
  have nm := (okName_ok h3).1
  unfold tlB at htl
  split at htl
  · rename_i a' h' e1 p1 hd p2 kf j2 p3 p4 eps ehs ebd
    obtain ⟨htl, t6⟩ := b2a htl
    obtain ⟨htl, t5⟩ := b2a htl
    obtain ⟨htl, t4⟩ := b2a htl
    obtain ⟨htl, t3⟩ := b2a htl
    obtain ⟨t1, t2⟩ := b2a htl
    have kp : tl.keep = false := by
      cases z : tl.keep with
      | false => rfl
      | true => rw [z] at t3; cases t3
    unfold actB at t4
    split at t4
    · rename_i b pb pc
      have eb := of_decide_eq_true t4
      subst eb
      unfold hdB at t5
      split at t5
      · rename_i e pe k1 j1 pk pr ph
        obtain ⟨t5, u4⟩ := b2a t5
        obtain ⟨t5, u3⟩ := b2a t5
        obtain ⟨u1, u2⟩ := b2a t5
        have u1 := of_decide_eq_true u1
        obtain ⟨ck, _⟩ := g.st.cls _ _ u1
        obtain ⟨v1, w1, r1⟩ := const_v (constB_ok u4)
        obtain ⟨v2, w2, r2⟩ := const_v (constB_ok t6)
        have gle : (defScope st).names.lookup e = some .globalImplicit := by
          unfold glB at u2
          split at u2
          · assumption
          · cases u2
        have SC := scope_ok t1
        have hv : Vis (defScope st) a' := (SC.par a' List.mem_cons_self).elim (fun z => .inl z) (fun z => .inr (.inl z))
        rw [ebd] at FD
        have fun1 : ev G (.tell t c) = fun ρ s => tellR G.sub tl (ev G.low c ρ s) := by
          funext ρ s
          rw [ev, q]
        rw [fun1]
        refine PE.weak (pe_tell (k := j) (T := tabT X.K) (g.gl h2) hmg FD (a := a') (Ng := [a']) (fun s u => ?_) SC rfl hv (fun cdg => tell_gives w1 w2 gle ck.at_ (okName_ok u3).1) c2 c1 c3 (fun p hp e => g.st.tnd p hp _ c3 e) g.room L rfl (fun _ _ _ => rfl)
          (t := fun E => tM X.K xc (fun cls d _ H => E cls d H) (ev G.low c)) (fun A outer s H E fo co gd r => hb j _ _ ?_) nm (okName_ok t2).1 (okName_ok t2).2) fun σ H Q z => tell_rd g.st kp ehs u1 r1 r2 z
        · refine FD.bindsA (ps := [a']) (fun kV doc pm an cdv ct us hl => ?_) s [u] rfl
          match us, hl with
          | [u], _ =>
            obtain ⟨b, eb, ez⟩ := hpar kV doc pm an cdv ct u
            rw [eps] at eb
            cases eb
            rw [ebd] at ez
            exact ez
        · exact ⟨g.N, g.nd, rfl, L.kind, rfl, r, gd.trans g.gd, takes_lam, (fun _ z => nomatch (show false = true from z)), low_sta g.st, (fun z => nomatch (show false = true from z))⟩
      · cases t5
    · cases t4
  · cases htl
/-! ### all -/
theorem marks2 {o1 o2 : CmpOp} {a b : Expr} (h : notSet b = true) : lastMarks [o1, o2] [a, b] = false := notSet_ok h
theorem chk_all (M : Ck) (xc : Nat → Option XCls) : ∀ n, (∀ G k E X W c e, Cg M G xc k E X W → chkE M n E c e = true → PE X e (tM X.K xc W (ev G c))) ∧
    (∀ G k E X W c e, Cg M G xc k E X W → chkT M n E c e = true → PT X e (tMT X.K xc W (evT G c))) := by
  intro n
  induction n with
  | zero =>
    refine ⟨fun G k E X W c e g h => ?_, fun G k E X W c e g h => ?_⟩
    · rw [chkE.eq_def] at h; exact absurd h Bool.false_ne_true
    · rw [chkT.eq_def] at h; exact absurd h Bool.false_ne_true
  | succ n ih =>
    obtain ⟨ihE, ihT⟩ := ih
    have partE : ∀ G k E X W c e, Cg M G xc k E X W → chkE M (n + 1) E c e = true → PE X e (tM X.K xc W (ev G c)) := by
      intro G k E X W c e g h
      have hE := fun c e => ihE G k E X W c e g
      have hT := fun c e => ihT G k E X W c e g
      cases c with
      | var i =>
        rw [chkE.eq_def] at h
        dsimp only at h
        split at h
        · obtain ⟨h, h3⟩ := b2a h
          obtain ⟨h1, h2⟩ := b2a h
          exact r_var (pe_var (g.ix h1) (g.vis h2) (okName_ok h3).1 (okName_ok h3).2)
        · cases h
      | cst d =>
        rw [chkE.eq_def] at h
        dsimp only at h
        split at h
        · exact r_cst (constB_ok h)
        · cases h
      | gc i =>
        rw [chkE.eq_def] at h
        dsimp only at h
        split at h
        · obtain ⟨h, h3⟩ := b2a h
          obtain ⟨h1, h2⟩ := b2a h
          rename_i x _
          cases q : G.gc i with
          | none =>
            refine ⟨fun pins s σ H Q I ⟨F, μ, S, ρ, rel, er, z⟩ => ?_⟩
            rw [ev, q] at z
            exact z.elim
          | some d =>
            obtain ⟨v, u, e1, e2, e3⟩ := g.st.gcs i _ d (of_decide_eq_true h1) q
            exact r_val (pe_glob (g.gl h2) e1 e2 (okName_ok h3).1) e3 fun ρ s => by rw [ev, q]; rfl
        · cases h
      | bin op a b =>
        rw [chkE.eq_def] at h
        dsimp only at h
        split at h
        · obtain ⟨h, h3⟩ := b2a h
          obtain ⟨h1, h2⟩ := b2a h
          rw [← opEq_ok h1]
          exact r_binAll (hE _ _ h2) (hE _ _ h3)
        · cases h
      | neg a =>
        rw [chkE.eq_def] at h
        dsimp only at h
        split at h
        · exact r_neg (hE _ _ h)
        · cases h
      | notv a =>
        rw [chkE.eq_def] at h
        dsimp only at h
        split at h
        · exact r_not (hE _ _ h)
        · cases h
      | andv cs =>
        rw [chkE.eq_def] at h
        dsimp only at h
        split at h
        · obtain ⟨h1, h2⟩ := b2a h
          exact and_E hE h2 (notEmpty h1)
        · cases h
      | orv cs =>
        rw [chkE.eq_def] at h
        dsimp only at h
        split at h
        · obtain ⟨h1, h2⟩ := b2a h
          exact or_E hE h2 (notEmpty h1)
        · cases h
      | cmp op a b =>
        rw [chkE.eq_def] at h
        dsimp only at h
        split at h
        · obtain ⟨h, h4⟩ := b2a h
          obtain ⟨h, h3⟩ := b2a h
          obtain ⟨h1, h2⟩ := b2a h
          rw [← cmEq_ok h1]
          exact r_cmp g.room (hE _ _ h3) (hE _ _ h4) (notSet_ok h2)
        · cases h
      | chain o1 o2 a b c =>
        rw [chkE.eq_def] at h
        dsimp only at h
        split at h
        · obtain ⟨h, h7⟩ := b2a h
          obtain ⟨h, h6⟩ := b2a h
          obtain ⟨h, h5⟩ := b2a h
          obtain ⟨h, h4⟩ := b2a h
          obtain ⟨h, h3⟩ := b2a h
          obtain ⟨h1, h2⟩ := b2a h
          rw [← cmEq_ok h1, ← cmEq_ok h2]
          exact r_chain g.room (hE _ _ h5) (hE _ _ h6) (hE _ _ h7) (marks2 h4) (notSet_ok h3) (notSet_ok h4)
        · cases h
      | ife c a b =>
        rw [chkE.eq_def] at h
        dsimp only at h
        split at h
        · obtain ⟨h, h3⟩ := b2a h
          obtain ⟨h1, h2⟩ := b2a h
          exact r_ife (hT _ _ h1) (hE _ _ h2) (hE _ _ h3)
        · cases h
      | tup cs =>
        rw [chkE.eq_def] at h
        dsimp only at h
        split at h
        · exact r_tup (star_D hE h)
        · cases h
      | lst cs =>
        rw [chkE.eq_def] at h
        dsimp only at h
        split at h
        · exact r_lst (star_D hE h)
        · cases h
      | ix a b =>
        rw [chkE.eq_def] at h
        dsimp only at h
        split at h
        · obtain ⟨h, h3⟩ := b2a h
          obtain ⟨h1, h2⟩ := b2a h
          exact r_ix (hE _ _ h2) (hE _ _ h3) h1
        · cases h
      | sl a lo hi =>
        rw [chkE.eq_def] at h
        dsimp only at h
        split at h
        · obtain ⟨h, h3⟩ := b2a h
          obtain ⟨h1, h2⟩ := b2a h
          exact r_sl (hE _ _ h1) (opt_O hE h2) (opt_O hE h3)
        · cases h
      | call f cs =>
        rw [chkE.eq_def] at h
        dsimp only at h
        split at h
        · exact call_ok g hE h
        · cases h
      | b1 f a =>
        rw [chkE.eq_def] at h
        dsimp only at h
        split at h
        · obtain ⟨h, h4⟩ := b2a h
          obtain ⟨h, h3⟩ := b2a h
          obtain ⟨h1, h2⟩ := b2a h
          exact b1_ok g (of_decide_eq_true h1) h2 (hE _ _ h3) h4
        · split at h
          · obtain ⟨h, h6⟩ := b2a h
            obtain ⟨h, h5⟩ := b2a h
            obtain ⟨h, h4⟩ := b2a h
            obtain ⟨h, h3⟩ := b2a h
            obtain ⟨h1, h2⟩ := b2a h
            have e := of_decide_eq_true h1
            subst e
            exact isi_ok g h2 h3 h4 (hE _ _ h5) h6
          · cases h
        · cases h
      | b2 f a b =>
        rw [chkE.eq_def] at h
        dsimp only at h
        split at h
        · obtain ⟨h, h5⟩ := b2a h
          obtain ⟨h, h4⟩ := b2a h
          obtain ⟨h, h3⟩ := b2a h
          obtain ⟨h1, h2⟩ := b2a h
          split at h1
          · obtain ⟨h1, h8⟩ := b2a h1
            obtain ⟨h6, h7⟩ := b2a h1
            have e := of_decide_eq_true h6
            subst e
            exact gcd_ok g (g.st.gcd h7) (g.gl h8) (hE _ _ h2) h3 (hE _ _ h4) h5
          · obtain ⟨h6, h7⟩ := b2a h1
            exact b2_ok g (of_decide_eq_true h6) h7 (hE _ _ h2) h3 (hE _ _ h4) h5
        · cases h
      | comp kind its tg own conds elt =>
        rw [chkE.eq_def] at h
        dsimp only at h
        split at h
        · have o := comp_ok g (ihE G k) (ihT G k) h
          exact r_comp g.calm g.nd o.it o.bo o.ow o.sl o.tg o.cd o.el o.fs
        · cases h
      | tell t c =>
        rw [chkE.eq_def] at h
        dsimp only at h
        split at h
        · obtain ⟨h1, h2⟩ := b2a h
          exact tell_ok g h1 fun j X' W' g' => ihE G.low j _ X' W' _ _ g' h2
        · cases h
      | dic =>
        rw [chkE.eq_def] at h
        dsimp only at h
        split at h
        · exact r_dic
        · cases h
    refine ⟨partE, fun G k E X W c e g h => ?_⟩
    have hE := fun c e => ihE G k E X W c e g
    have hT := fun c e => ihT G k E X W c e g
    rw [chkT.eq_def] at h
    dsimp only at h
    split at h
    · split at h
      · exact t_not (hT _ _ h)
      · cases h
    · split at h
      · obtain ⟨h1, h2⟩ := b2a h
        exact (and_T hT h2 (notEmpty h1)).pt
      · cases h
    · split at h
      · obtain ⟨h1, h2⟩ := b2a h
        exact (or_T hT h2 (notEmpty h1)).pt
      · cases h
    · split at h
      · obtain ⟨h, h4⟩ := b2a h
        obtain ⟨h, h3⟩ := b2a h
        obtain ⟨h1, h2⟩ := b2a h
        rw [← cmEq_ok h1]
        exact t_cmp g.room (hE _ _ h3) (hE _ _ h4) (notSet_ok h2)
      · cases h
    · split at h
      · obtain ⟨h, h7⟩ := b2a h
        obtain ⟨h, h6⟩ := b2a h
        obtain ⟨h, h5⟩ := b2a h
        obtain ⟨h, h4⟩ := b2a h
        obtain ⟨h, h3⟩ := b2a h
        obtain ⟨h1, h2⟩ := b2a h
        rw [← cmEq_ok h1, ← cmEq_ok h2]
        exact t_chain g.room (hE _ _ h5) (hE _ _ h6) (hE _ _ h7) (marks2 h4)
      · cases h
    · obtain ⟨h1, h2⟩ := b2a h
      refine t_val (hE _ _ h2) fun whole => ?_
      cases e <;> first | rfl | cases h1
theorem chk_ok (M : Ck) (G : Gx) (xc : Nat → Option XCls) (k : Nat) (n : Nat) : (∀ E X W c e, Cg M G xc k E X W → chkE M n E c e = true → PE X e (tM X.K xc W (ev G c))) ∧
    (∀ E X W c e, Cg M G xc k E X W → chkT M n E c e = true → PT X e (tMT X.K xc W (evT G c))) := ⟨(chk_all M xc n).1 G k, (chk_all M xc n).2 G k⟩
end
end Zw
set_option Elab.async false
set_option linter.all false
set_option maxRecDepth 100000
/-! Zw12: the check of statements, sound. -/
namespace Zw
open PySem PySem.Spec PyProof.Rows L2
/-! ### the check -/
def compSc : Expr → Option (Scope × Pos)
  | .ListComp _ _ s p => some (s, p)
  | .SetComp _ _ s p => some (s, p)
  | .DictComp _ _ _ s p => some (s, p)
  | _ => none
def notComp (e : Expr) : Bool := (compSc e).isNone
def notTup : Expr → Bool
  | .Tuple .. => false
  | _ => true
/-- no local name -/
def outB (sc : Scope) : Expr → Bool
  | .Name x _ => !localB sc x
  | _ => true
def foldT : Expr → Bool
  | .Tuple vs _ _ => vs.all (foldedForSure 8)
  | _ => false
def notName : Expr → Bool
  | .Name .. => false
  | _ => true
def swB (sc : Scope) (x : Str) (l : Nat) (s : Scope) (p : Pos) : Bool := (sc.names.lookup x == some .local) && (l == p.line) && !(s.names.any fun (n, k) => n == x && (k == .local || k == .cell))
def nameOf : Expr → Option (Str × Pos)
  | .Name x p => some (x, p)
  | _ => none
def asgC (M : Ck) (n : Nat) (E : CkE) (c : CE) (v : Expr) : Bool := match c with
  | .comp kind its tg own conds elt => (match v with
    | .ListComp el [⟨tge, it, ifs, 0⟩] scope _ => compB M E (chkE M n) (chkT M n) kind its tg own conds elt el tge it ifs scope
    | _ => false)
  | _ => false
def asgB (M : Ck) (n : Nat) (E : CkE) (i : Nat) (c : CE) (x : Str) (p : Pos) (v : Expr) : Bool := atB E.N i x && locB E.sc x && (E.fn x || localB E.sc x) &&
  match compSc v with
  | none => chkE M n E c v
  | some (s, vp) => (swB E.sc x p.line s vp && asgC M n E c v) || (!swB E.sc x p.line s vp && chkE M n E c v)
def two (M : Ck) (n : Nat) (E : CkE) (i : Nat) (x : Str) : Bool := atB E.N i x && localB E.sc x
def foldB (vs : List Expr) : Bool := !(vs.all (foldedForSure 8)) && !(vs.all (constantsAlone 8))
def parB (M : Ck) (n : Nat) (E : CkE) (is : List Nat) (cs : List CE) (ts vs : List Expr) : Bool := match is, cs, ts, vs with
  | [i, j], [c, d], [.Name x px, .Name y py], [a, b] => two M n E i x && two M n E j y && !(i == j) && !(x == y) && (px.line == py.line) && notStar a && notStar b && foldB [a, b] && chkE M n E c a && chkE M n E d b
  | [i, j, l], [c, d, e], [.Name x px, .Name y py, .Name z pz], [a, b, v] => two M n E i x && two M n E j y && two M n E l z && !(i == j) && !(i == l) && !(j == l) && !(x == y) && !(x == z) && !(y == z) && (px.line == py.line) && (px.line == pz.line) &&
    notStar a && notStar b && notStar v && foldB [a, b, v] && chkE M n E c a && chkE M n E d b && chkE M n E e v
  | _, _, _, _ => false
def varB (E : CkE) (i : Nat) (x : Str) : Bool := atB E.N i x && visB E.sc x && okName x
mutual
def chkS (M : Ck) : Nat → CkE → CS → Stmt → Bool
  | 0, _, _, _ => false
  | n + 1, E, c, st => match c with
    | .pass => (match st with
      | .Pass _ => true
      | _ => false)
    | .never => true
    | .raise c => (match st with
      | .Raise (some (.Call (.Name x _) [.Constant (.str _) _ _] [] _)) none _ => atB M.clm c x && glB E.sc x && okName x
      | _ => false)
    | .expr c => (match st with
      | .Expr e _ => chkE M n E c e && notComp e
      | _ => false)
    | .asg i c => (match st with
      | .Assign [.Name x p] v _ => asgB M n E i c x p v
      | _ => false)
    | .asgT t c => (match st with
      | .Assign [.Tuple es k p] v _ => chkG E t (.Tuple es k p) && chkE M n E c v && notComp v && (notTup v || es.any (outB E.sc) || foldT v)
      | _ => false)
    | .par is cs => (match st with
      | .Assign [.Tuple ts _ _] (.Tuple vs _ _) _ => parB M n E is cs ts vs
      | _ => false)
    | .aug i op c => (match st with
      | .AugAssign (.Name x _) o v _ => augOk op && opEq (opOf op) o && atB E.N i x && locB E.sc x && (E.fn x || localB E.sc x) && chkE M n E c v
      | _ => false)
    | .setIx i ck c => (match st with
      | .Assign [.Subscript (.Name x _) k _] v _ => varB E i x && notSlice k && chkE M n E ck k && chkE M n E c v && notComp v
      | _ => false)
    | .app i c => (match st with
      | .Expr (.Call (.Attribute (.Name x _) m ap) [a] [] cp) _ => varB E i x && strEq m "append" && (ap.endLine == cp.line) && notStar a && chkE M n E c a
      | _ => false)
    | .ext i c => (match st with
      | .Expr (.Call (.Attribute (.Name x _) m ap) [a] [] cp) _ => varB E i x && strEq m "extend" && (ap.endLine == cp.line) && notStar a && chkE M n E c a
      | _ => false)
    | .ret c => (match st with
      | .Return (some e) _ => (match c with
        | .var i => (match e with
          | .Name x _ => varB E i x
          | _ => false)
        | c => chkE M n E c e)
      | _ => false)
    | .retN => (match st with
      | .Return none _ => true
      | _ => false)
    | .ite c a b => (match st with
      | .If t x y _ => chkT M n E c t && chkSs M n E a x && chkSs M n E b y
      | _ => false)
    | .for_ cs kind its tg body => (match st with
      | .For t it bd [] _ => itB M E (chkE M n E) t kind its it && chkG E tg t && chkSs M n E body bd
      | _ => false)
    | .while_ c body => (match st with
      | .While t bd [] _ => chkT M n E c t && chkSs M n E body bd
      | _ => false)
    | .brk => (match st with
      | .Break _ => true
      | _ => false)
    | .cont => (match st with
      | .Continue _ => true
      | _ => false)
    | .frz _ => false
    | .mv _ => false
def chkSs (M : Ck) : Nat → CkE → List CS → List Stmt → Bool
  | 0, _, _, _ => false
  | n + 1, E, cs, sts => match cs with
    | [] => sts.isEmpty
    | c :: cs => (match c with
      | .frz _ => chkSs M n E cs sts
      | .mv _ => chkSs M n E cs sts
      | c => (match sts with
        | [] => false
        | st :: sts => chkS M n E c st && chkSs M n E cs sts))
end
section
variable {M : Ck} {G : Gx} {xc : Nat → Option XCls} {k : Nat} {E : CkE} {X : Cx} {W : WX}
theorem blockKind_fn {env : PySem.Env} (h : env.scope.kind = .function) : env.blockKind = .function := by unfold Env.blockKind; rw [h]; rfl
theorem notComp_sw {e : Expr} {t : Option Expr} {l : Nat} {env : PySem.Env} (h : notComp e = true) : swapsWith e t l env = pure false := by
  cases e <;> first | rfl | cases h
theorem sw_name {v : Expr} {x : Str} {p : Pos} {l : Nat} {env : PySem.Env} {s : Scope} {vp : Pos} (hk : env.scope.kind = .function) (h : compSc v = some (s, vp)) : swapsWith v (some (.Name x p)) l env = pure (swB env.scope x p.line s vp) := by
  have hb := blockKind_fn hk
  cases v with
  | ListComp _ _ s' p' => cases h; unfold swapsWith swB; simp [hb, Env.kindOf]; rfl
  | SetComp _ _ s' p' => cases h; unfold swapsWith swB; simp [hb, Env.kindOf]; rfl
  | DictComp _ _ _ s' p' => cases h; unfold swapsWith swB; simp [hb, Env.kindOf]; rfl
  | _ => cases h
theorem swap_eq {env : PySem.Env} {ts vs : List Expr} {kt k2 : Nat} {pt pt2 : Pos} : ∃ (F : Expr → Bool) (N : Nat → Expr → Option Str), (∀ e, notStar e = true → F e = false) ∧ (∀ l x p, N l (.Name x p) = if env.kindOf x == some .local && p.line == l then some x else none) ∧
    (env.blockKind = .function → (ts.length == 2 || ts.length == 3) = true → vs.length = ts.length → vs.any F = false → ∀ names, ts.filterMap (N ((ts.head?.map (·.pos.line)).getD 0)) = names → names.length = ts.length → names.eraseDups.length = names.length →
      vs.all (foldedForSure 8) = false → vs.all (constantsAlone 8) = false → swappedStores [.Tuple ts kt pt] (.Tuple vs k2 pt2) env = pure (some names)) := by
  refine ⟨fun | .Starred .. => true | _ => false, fun l e => match e with | .Name id pos => if env.kindOf id == some .local && pos.line == l then some id else none | _ => none, ?_, fun _ _ _ => rfl, ?_⟩
  · intro e h
    cases e <;> first | rfl | cases h
  · intro h1 h2 h3 h4 names h5 h6 h7 h8 h9
    unfold swappedStores
    dsimp only
    rw [h1, h3, h2]
    simp only [bne_self_eq_false, Bool.not_true, Bool.or_false, Bool.false_eq_true, if_false, h8, h9]
    have key : ∀ (b : Bool) (n : List Str), b = false → n = names → (if b = true then (pure none : Sem (Option (List Str))) else if (n.length != ts.length || n.eraseDups.length != n.length) = true then (pure none : Sem (Option (List Str))) else pure (some n)) = pure (some names) := fun b n e0 e => by
      subst e e0
      rw [h6, h7, h6]
      simp
    exact key _ _ h4 h5
theorem foldB_ok {vs : List Expr} (h : foldB vs = true) : vs.all (foldedForSure 8) = false ∧ vs.all (constantsAlone 8) = false := by
  obtain ⟨f1, f2⟩ := b2a h
  constructor
  · cases q : vs.all (foldedForSure 8) with | false => rfl | true => rw [q] at f1; cases f1
  · cases q : vs.all (constantsAlone 8) with | false => rfl | true => rw [q] at f2; cases f2
theorem beq_sym {x y : Str} (h : (x == y) = false) : (y == x) = false := by
  cases q : y == x with
  | false => rfl
  | true =>
    rw [beq_iff_eq.mp q] at h
    simp at h
theorem swapped2 {env : PySem.Env} {x y : Str} {px py pt pt2 : Pos} {kt k2 : Nat} {a b : Expr} (hk : env.scope.kind = .function) (hx : env.scope.names.lookup x = some .local) (hy : env.scope.names.lookup y = some .local) (hxy : (x == y) = false) (hl : (px.line == py.line) = true)
    (ha : notStar a = true) (hb : notStar b = true) (hf : foldB [a, b] = true) : swappedStores [.Tuple [.Name x px, .Name y py] kt pt] (.Tuple [a, b] k2 pt2) env = pure (some [x, y]) := by
  obtain ⟨F, N, e1, e2, e3⟩ := swap_eq (env := env) (ts := [.Name x px, .Name y py]) (vs := [a, b]) (kt := kt) (k2 := k2) (pt := pt) (pt2 := pt2)
  refine e3 (blockKind_fn hk) rfl rfl (by simp [e1 a ha, e1 b hb]) [x, y] ?_ rfl ?_ (foldB_ok hf).1 (foldB_ok hf).2
  · have l : py.line = px.line := (beq_iff_eq.mp hl).symm
    simp [List.filterMap_cons, e2, Expr.pos, Env.kindOf, hx, hy, l]
  · simp [List.eraseDups, List.eraseDupsBy, List.eraseDupsBy.loop, hxy, beq_sym hxy]
theorem swapped3 {env : PySem.Env} {x y z : Str} {px py pz pt pt2 : Pos} {kt k2 : Nat} {a b c : Expr} (hk : env.scope.kind = .function) (hx : env.scope.names.lookup x = some .local) (hy : env.scope.names.lookup y = some .local) (hz : env.scope.names.lookup z = some .local)
    (hxy : (x == y) = false) (hxz : (x == z) = false) (hyz : (y == z) = false) (hl : (px.line == py.line) = true) (hl2 : (px.line == pz.line) = true)
    (ha : notStar a = true) (hb : notStar b = true) (hc : notStar c = true) (hf : foldB [a, b, c] = true) : swappedStores [.Tuple [.Name x px, .Name y py, .Name z pz] kt pt] (.Tuple [a, b, c] k2 pt2) env = pure (some [x, y, z]) := by
  obtain ⟨F, N, e1, e2, e3⟩ := swap_eq (env := env) (ts := [.Name x px, .Name y py, .Name z pz]) (vs := [a, b, c]) (kt := kt) (k2 := k2) (pt := pt) (pt2 := pt2)
  refine e3 (blockKind_fn hk) rfl rfl (by simp [e1 a ha, e1 b hb, e1 c hc]) [x, y, z] ?_ rfl ?_ (foldB_ok hf).1 (foldB_ok hf).2
  · have l : py.line = px.line := (beq_iff_eq.mp hl).symm
    have l2 : pz.line = px.line := (beq_iff_eq.mp hl2).symm
    simp [List.filterMap_cons, e2, Expr.pos, Env.kindOf, hx, hy, hz, l, l2]
  · simp [List.eraseDups, List.eraseDupsBy, List.eraseDupsBy.loop, hxy, hxz, hyz, beq_sym hxy, beq_sym hxz, beq_sym hyz]
/-! ### soundness -/
theorem Cg.kindX (g : Cg M G xc k E X W) : X.env.scope.kind = .function := by rw [g.sc]; exact g.kind
theorem Cg.two (g : Cg M G xc k E X W) {n i : Nat} {x : Str} (h : two M n E i x = true) : X.N[i]? = some x ∧ X.env.scope.names.lookup x = some .local := by
  obtain ⟨h1, h2⟩ := b2a h
  exact ⟨g.ix h1, by rw [g.sc]; exact localB_ok h2⟩
theorem Cg.var (g : Cg M G xc k E X W) {i : Nat} {x : Str} {p : Pos} (h : varB E i x = true) : PE X (.Name x p) (tVar i) := by
  obtain ⟨h, h3⟩ := b2a h
  obtain ⟨h1, h2⟩ := b2a h
  exact pe_var (g.ix h1) (g.vis h2) (okName_ok h3).1 (okName_ok h3).2
theorem s_raise (g : Cg M G xc k E X W) {c : Nat} {x m : Str} {j : Nat} {p p2 p3 pos : Pos} (hx : M.clm[c]? = some x) (hg : L2.Gl X x) (hd : (x == ("__debug__" : Str)) = false) :
    PS X (.Raise (some (.Call (.Name x p) [.Constant (.str m) j p2] [] p3)) none pos) (tMS X.K xc W (exec G (.raise c))) := by
  obtain ⟨C, e⟩ := g.st.cls c x hx
  refine PS.weak (ps_raise g.calm g.tk (pmk_own PySem.F.excBase_ValueError C.exc C.at_ C.kp (raises_own C.sb C.ty) hg hd)) fun D σ H ⟨F0, μ0, H0, F, μ, S, ρ, s, h⟩ => ?_
  rw [exec] at h
  exact h F μ H σ _ _ s ⟨_, e, rfl, trivial⟩
theorem ne_of {i j : Nat} (h : (!(i == j)) = true) : i ≠ j := fun e => by rw [e] at h; simp at h
theorem neS {x y : Str} (h : (!(x == y)) = true) : (x == y) = false := by
  cases q : x == y with
  | false => rfl
  | true => rw [q] at h; cases h
theorem par_ok (g : Cg M G xc k E X W) {n : Nat} {is : List Nat} {cs : List CE} {ts vs : List Expr} {kt k2 : Nat} {pt p2 pos : Pos} (h : parB M n E is cs ts vs = true) :
    PS X (.Assign [.Tuple ts kt pt] (.Tuple vs k2 p2) pos) (tMS X.K xc W (exec G (.par is cs))) := by
  have hE := fun c e => (chk_ok M G xc k n).1 E X W c e g
  unfold parB at h
  split at h
  · obtain ⟨h, h10⟩ := b2a h
    obtain ⟨h, h9⟩ := b2a h
    obtain ⟨h, h8⟩ := b2a h
    obtain ⟨h, h7⟩ := b2a h
    obtain ⟨h, h6⟩ := b2a h
    obtain ⟨h, h5⟩ := b2a h
    obtain ⟨h, h4⟩ := b2a h
    obtain ⟨h, h3⟩ := b2a h
    obtain ⟨h1, h2⟩ := b2a h
    obtain ⟨a1, a2⟩ := g.two h1
    obtain ⟨b1, b2⟩ := g.two h2
    exact s_par2 g.calm g.nd a1 b1 (ne_of h3) a2 b2 (g_cons (hE _ _ h9) (g_cons (hE _ _ h10) g_nil h7) h6) (swapped2 g.kindX a2 b2 (neS h4) h5 h6 h7 h8) rfl
  · obtain ⟨h, h18⟩ := b2a h
    obtain ⟨h, h17⟩ := b2a h
    obtain ⟨h, h16⟩ := b2a h
    obtain ⟨h, h15⟩ := b2a h
    obtain ⟨h, h14⟩ := b2a h
    obtain ⟨h, h13⟩ := b2a h
    obtain ⟨h, h12⟩ := b2a h
    obtain ⟨h, h11⟩ := b2a h
    obtain ⟨h, h10⟩ := b2a h
    obtain ⟨h, h9⟩ := b2a h
    obtain ⟨h, h8⟩ := b2a h
    obtain ⟨h, h7⟩ := b2a h
    obtain ⟨h, h6⟩ := b2a h
    obtain ⟨h, h5⟩ := b2a h
    obtain ⟨h, h4⟩ := b2a h
    obtain ⟨h, h3⟩ := b2a h
    obtain ⟨h1, h2⟩ := b2a h
    obtain ⟨a1, a2⟩ := g.two h1
    obtain ⟨b1, b2⟩ := g.two h2
    obtain ⟨c1, c2⟩ := g.two h3
    exact s_par3 g.calm g.nd a1 b1 c1 (ne_of h4) (ne_of h5) (ne_of h6) a2 b2 c2 (g_cons (hE _ _ h16) (g_cons (hE _ _ h17) (g_cons (hE _ _ h18) g_nil h14) h13) h12)
      (swapped3 g.kindX a2 b2 c2 (neS h7) (neS h8) (neS h9) h10 h11 h12 h13 h14 h15) rfl
  · cases h
theorem asg_ok (g : Cg M G xc k E X W) {n i : Nat} {c : CE} {x : Str} {p pos : Pos} {v : Expr} (h : asgB M n E i c x p v = true) : PS X (.Assign [.Name x p] v pos) (tMS X.K xc W (exec G (.asg i c))) := by
  have hE := fun c e => (chk_ok M G xc k n).1 E X W c e g
  obtain ⟨h, h4⟩ := b2a h
  obtain ⟨h, h3⟩ := b2a h
  obtain ⟨h1, h2⟩ := b2a h
  have hi := g.ix h1
  have hl := g.loc h2
  have hf := g.hf h3
  cases q : compSc v with
  | none =>
    rw [q] at h4
    exact s_asg g.nd hi hl (hE _ _ h4) (notComp_sw (by unfold notComp; rw [q]; rfl)) hf
  | some sp =>
    obtain ⟨s, vp⟩ := sp
    rw [q] at h4
    have hsw := fun l => sw_name (x := x) (p := p) (l := l) g.kindX q
    rw [g.sc] at hsw
    rcases Bool.or_eq_true_iff.mp h4 with h4 | h4
    · obtain ⟨q2, h4⟩ := b2a h4
      rw [q2] at hsw
      have hyl : X.env.scope.names.lookup x = some .local := by
        obtain ⟨q3, _⟩ := b2a q2
        obtain ⟨q4, _⟩ := b2a q3
        rw [g.sc]
        exact beq_iff_eq.mp q4
      unfold asgC at h4
      split at h4
      · split at h4
        · have o := comp_ok g (chk_ok M G xc k n).1 (chk_ok M G xc k n).2 h4
          refine PS.weak (ps_setLc g.calm g.nd hi hyl (hsw _) o.it o.bo o.tg o.cd o.el o.fs) fun D σ H z => ?_
          rw [o.ow]
          exact comp_rd o.sl (asg_rd z)
        · cases h4
      · cases h4
    · obtain ⟨q2, h4⟩ := b2a h4
      have q2 : swB E.sc x p.line s vp = false := by
        cases q3 : swB E.sc x p.line s vp with
        | false => rfl
        | true => rw [q3] at q2; cases q2
      rw [q2] at hsw
      exact s_asg g.nd hi hl (hE _ _ h4) (hsw _) hf
theorem sole_sw {e t : Expr} {l : Nat} {env : PySem.Env} (h : notComp e = true) : swapsWithSole [t] e l env = pure false := notComp_sw (t := some t) (l := l) (env := env) h
theorem notTup_sw {tg v : Expr} {env : PySem.Env} (h : notTup v = true) : swappedStores [tg] v env = pure none := by
  cases v <;> first | (cases tg <;> rfl) | cases h
theorem filter_short {N : Expr → Option Str} {q : Expr → Bool} (hN : ∀ e, q e = true → N e = none) : ∀ {ts : List Expr}, ts.any q = true → (ts.filterMap N).length < ts.length
  | [], h => by cases h
  | t :: ts, h => by
    rw [List.filterMap_cons]
    cases z : q t with
    | true =>
      rw [hN t z]
      exact Nat.lt_succ_of_le (List.length_filterMap_le _ _)
    | false =>
      rw [List.any_cons, z, Bool.false_or] at h
      have ih := filter_short hN h
      cases N t with
      | none => exact Nat.lt_succ_of_lt ih
      | some y => exact Nat.succ_lt_succ ih
theorem notLocal_kind {env : PySem.Env} {sc : Scope} {x : Str} (hs : env.scope = sc) (h : localB sc x = false) : (env.kindOf x == some .local) = false := by
  cases q : env.kindOf x == some .local with
  | false => rfl
  | true =>
    have e : env.scope.names.lookup x = some .local := beq_iff_eq.mp q
    rw [hs] at e
    unfold localB at h
    rw [e] at h
    cases h
theorem swap_none {ts vs : List Expr} {k k2 : Nat} {p p2 : Pos} {env : PySem.Env} {sc : Scope} (hs : env.scope = sc) (h : ts.any (outB sc) = true) : swappedStores [.Tuple ts k p] (.Tuple vs k2 p2) env = pure none := by
  unfold swappedStores
  dsimp only
  split
  · rfl
  · split
    · rfl
    · split
      · rfl
      · rename_i h3
        refine absurd ?_ h3
        rw [Bool.or_eq_true]
        refine .inl (bne_iff_ne.mpr (Nat.ne_of_lt (filter_short (q := outB sc) (fun e he => ?_) h)))
        cases e with
        | Name x px =>
          have z : localB sc x = false := by
            cases q : localB sc x with
            | false => rfl
            | true =>
              have he : (!localB sc x) = true := he
              rw [q] at he
              cases he
          simp [notLocal_kind hs z]
        | _ => rfl
theorem swap_fold {ts vs : List Expr} {k k2 : Nat} {p p2 : Pos} {env : PySem.Env} (h : vs.all (foldedForSure 8) = true) : swappedStores [.Tuple ts k p] (.Tuple vs k2 p2) env = pure none := by
  unfold swappedStores
  dsimp only
  split
  · rfl
  · split
    · rfl
    · split
      · rfl
      · first | rfl | (rw [if_pos h]; rfl)
theorem tup_sw {es : List Expr} {k : Nat} {p : Pos} {v : Expr} {env : PySem.Env} {sc : Scope} (hs : env.scope = sc) (h : (notTup v || es.any (outB sc) || foldT v) = true) : swappedStores [.Tuple es k p] v env = pure none := by
  rcases Bool.or_eq_true_iff.mp h with h | h
  · rcases Bool.or_eq_true_iff.mp h with h | h
    · exact notTup_sw h
    · cases v with
      | Tuple vs k2 p2 => exact swap_none hs h
      | _ => exact notTup_sw rfl
  · cases v with
    | Tuple vs k2 p2 => exact swap_fold h
    | _ => cases h
theorem assign_sub {o k : Expr} {p2 : Pos} {env : PySem.Env} (h : notSlice k = true) (v : Value) : assign (.Subscript o k p2) env v = (do
      let ov ← holding [v] (eval o env)
      let iv ← holding [v, ov] (eval k env)
      standAt p2
      holding [v, ov, iv] (setItem ov iv v)
      release [v, ov, iv] []) := by
  cases k <;> first | rfl | cases h
theorem few_ok {e : Expr} {cpos : Pos} {env : PySem.Env} (h : notStar e = true) : ((backTo cpos (starEach [e] env)).all (fun x => !x.1) && (backToKw cpos (keywordEach [] env)).all (fun x => x.1.isSome)
      && decide ([e].length + ([] : List Keyword).length + (if ([] : List Keyword).isEmpty then 0 else 1) < 30)) = true := by
  rw [starEach_plain h]
  rfl
theorem chkS_ok (M : Ck) (G : Gx) (xc : Nat → Option XCls) (k : Nat) (E : CkE) (X : Cx) (W : WX) (g : Cg M G xc k E X W) (po : PassesOwn (model X.prog X.w) X.A X.env X.xe) : ∀ n, (∀ c st, chkS M n E c st = true → PS X st (tMS X.K xc W (exec G c))) ∧
    (∀ cs sts, chkSs M n E cs sts = true → PSs X sts (tMS X.K xc W (execs G cs))) := by
  intro n
  induction n with
  | zero =>
    refine ⟨fun c e h => ?_, fun c e h => ?_⟩
    · rw [chkS.eq_def] at h; exact absurd h Bool.false_ne_true
    · rw [chkSs.eq_def] at h; exact absurd h Bool.false_ne_true
  | succ n ih =>
    obtain ⟨ihS, ihSs⟩ := ih
    have hE := fun c e => (chk_ok M G xc k n).1 E X W c e g
    have hT := fun c e => (chk_ok M G xc k n).2 E X W c e g
    have partS : ∀ c st, chkS M (n + 1) E c st = true → PS X st (tMS X.K xc W (exec G c)) := by
      intro c st h
      cases c with
      | pass =>
        rw [chkS.eq_def] at h; dsimp only at h; split at h
        · exact s_pass
        · cases h
      | never => exact s_never
      | expr c =>
        rw [chkS.eq_def] at h; dsimp only at h; split at h
        · obtain ⟨h1, h2⟩ := b2a h
          exact s_expr (hE _ _ h1) (notComp_sw h2)
        · cases h
      | asg i c =>
        rw [chkS.eq_def] at h; dsimp only at h; split at h
        · exact asg_ok g h
        · cases h
      | asgT t c =>
        rw [chkS.eq_def] at h; dsimp only at h; split at h
        · obtain ⟨h, h4⟩ := b2a h
          obtain ⟨h, h3⟩ := b2a h
          obtain ⟨h1, h2⟩ := b2a h
          exact s_asgT (hE _ _ h2) (chkG_ok g _ _ h1) (sole_sw h3) (tup_sw g.sc h4) rfl
        · cases h
      | par is cs =>
        rw [chkS.eq_def] at h; dsimp only at h; split at h
        · exact par_ok g h
        · cases h
      | raise c =>
        rw [chkS.eq_def] at h; dsimp only at h; split at h
        · obtain ⟨h, h3⟩ := b2a h
          obtain ⟨h1, h2⟩ := b2a h
          exact s_raise g (of_decide_eq_true h1) (g.gl h2) (okName_ok h3).1
        · cases h
      | aug i op c =>
        rw [chkS.eq_def] at h; dsimp only at h; split at h
        · obtain ⟨h, h6⟩ := b2a h
          obtain ⟨h, h5⟩ := b2a h
          obtain ⟨h, h4⟩ := b2a h
          obtain ⟨h, h3⟩ := b2a h
          obtain ⟨h1, h2⟩ := b2a h
          rw [← opEq_ok h2]
          exact s_aug h1 g.nd (g.ix h3) (g.loc h4) (hE _ _ h6) (g.hf h5)
        · cases h
      | setIx i ck c =>
        rw [chkS.eq_def] at h; dsimp only at h; split at h
        · obtain ⟨h, h5⟩ := b2a h
          obtain ⟨h, h4⟩ := b2a h
          obtain ⟨h, h3⟩ := b2a h
          obtain ⟨h1, h2⟩ := b2a h
          exact s_setIx (g.var h1) (hE _ _ h3) (hE _ _ h4) (sole_sw h5) rfl rfl (assign_sub h2)
        · cases h
      | app i c =>
        rw [chkS.eq_def] at h; dsimp only at h; split at h
        · obtain ⟨h, h5⟩ := b2a h
          obtain ⟨h, h4⟩ := b2a h
          obtain ⟨h, h3⟩ := b2a h
          obtain ⟨h1, h2⟩ := b2a h
          have e := of_decide_eq_true h2
          subst e
          exact s_app (g.var h1) (hE _ _ h5) h4 rfl h3 (few_ok h4) rfl
        · cases h
      | ext i c =>
        rw [chkS.eq_def] at h; dsimp only at h; split at h
        · obtain ⟨h, h5⟩ := b2a h
          obtain ⟨h, h4⟩ := b2a h
          obtain ⟨h, h3⟩ := b2a h
          obtain ⟨h1, h2⟩ := b2a h
          have e := of_decide_eq_true h2
          subst e
          exact s_ext (g.var h1) (hE _ _ h5) h4 rfl h3 (few_ok h4) rfl
        · cases h
      | ret c =>
        rw [chkS.eq_def] at h; dsimp only at h; split at h
        · rename_i e _
          by_cases hv : ∃ i, c = .var i
          · obtain ⟨i, rfl⟩ := hv
            dsimp only at h
            split at h
            · exact s_retV (g.var h)
            · cases h
          · have nv : ∀ i, c ≠ .var i := fun i e => hv ⟨i, e⟩
            have h : chkE M n E c e = true := by
              cases c with
              | var i => exact absurd rfl (nv i)
              | _ => exact h
            exact s_ret nv (hE _ _ h)
        · cases h
      | retN =>
        rw [chkS.eq_def] at h; dsimp only at h; split at h
        · exact s_retN
        · cases h
      | ite c a b =>
        rw [chkS.eq_def] at h; dsimp only at h; split at h
        · obtain ⟨h, h3⟩ := b2a h
          obtain ⟨h1, h2⟩ := b2a h
          exact s_ite (hT _ _ h1) (ihSs _ _ h2) (ihSs _ _ h3)
        · cases h
      | for_ cs kind its tg body =>
        rw [chkS.eq_def] at h; dsimp only at h; split at h
        · obtain ⟨h, h3⟩ := b2a h
          obtain ⟨h1, h2⟩ := b2a h
          exact s_for po g.calm (it_ok g hE h1).1 (chkG_ok g _ _ h2) (ihSs _ _ h3) (it_ok g hE h1).2
        · cases h
      | while_ c body =>
        rw [chkS.eq_def] at h; dsimp only at h; split at h
        · obtain ⟨h1, h2⟩ := b2a h
          exact s_while po (hT _ _ h1) (ihSs _ _ h2)
        · cases h
      | brk =>
        rw [chkS.eq_def] at h; dsimp only at h; split at h
        · exact s_brk
        · cases h
      | cont =>
        rw [chkS.eq_def] at h; dsimp only at h; split at h
        · exact s_cont
        · cases h
      | frz i => rw [chkS.eq_def] at h; exact absurd h Bool.false_ne_true
      | mv i => rw [chkS.eq_def] at h; exact absurd h Bool.false_ne_true
    refine ⟨partS, fun cs sts h => ?_⟩
    rw [chkSs.eq_def] at h
    dsimp only at h
    split at h
    · cases sts with
      | nil => exact ss_nil
      | cons _ _ => cases h
    · split at h
      · exact ss_frz (ihSs _ _ h)
      · exact ss_mv (ihSs _ _ h)
      · split at h
        · cases h
        · obtain ⟨h1, h2⟩ := b2a h
          exact ss_cons (ihS _ _ h1) (ihSs _ _ h2)
end
end Zw
set_option Elab.async false
set_option linter.all false
set_option maxRecDepth 100000
/-! Zw13: defs, the module, the law's end. -/
namespace Zw
open PySem PySem.Spec PyProof.Rows L2
/-- one def of the text beside its core -/
structure FnI where
  x : Str
  st : Stmt
  N : List Str
  f : Fn
def FnI.ps (i : FnI) : List Str := (defArgs i.st).args.map (·.arg)
def fnB (M : Ck) (n : Nat) (i : FnI) : Bool := scopeB i.N i.ps (defScope i.st) && decide (i.ps.length = i.f.params) && decide (i.N.length = i.f.slots) && chkSs M n ⟨i.N, defScope i.st, fun _ => true, M.mkr.any fun y => decide (y = i.x)⟩ i.f.body (defBody i.st)
section
variable {K : PySem.W.Frag} {F H : Hp} {μ : List Addr}
theorem BRs.get : ∀ {vs : List V} {bs : List B} {i : Nat} {b : B}, BRs K F μ H vs bs → bs[i]? = some b → ∃ v, vs[i]? = some v ∧ BRp K F μ H v b
  | _, _, _, _, .nil, e => by simp at e
  | _, _, 0, _, .cons h _, e => by simp at e; subst e; exact ⟨_, rfl, h⟩
  | _, _, i + 1, _, .cons _ r, e => by
    obtain ⟨v, h1, h2⟩ := BRs.get (i := i) r (by simpa using e)
    exact ⟨v, by simpa using h1, h2⟩
theorem BRp.par {v : V} {b : B} (h : BRp K F μ H v b) : BRp K F μ H v b.par := by
  cases b <;> exact h
theorem par_own {b : B} : ∀ d, b.par ≠ .own d := by intro d h; cases b <;> cases h
theorem enter_ok {f : Fn} {N : List Str} {vs : List V} {bs : List B} {S : Store} (hN : N.length = f.slots) (hl : bs.length = f.params) (r : Rel K F μ S H) (brs : BRs K F μ H vs bs) : SR K F μ H F μ S H (enter f bs) (L2.start N vs) := by
  have hv := brs.length
  have get : ∀ (i : Nat) (b : B), (enter f bs)[i]? = some (some b) → ∃ b0, bs[i]? = some b0 ∧ b = b0.par := fun i b e => by
    unfold enter at e
    by_cases l : i < bs.length
    · rw [List.getElem?_append_left (by simpa using l), List.getElem?_map] at e
      cases q : bs[i]? with
      | none => rw [q] at e; cases e
      | some b0 =>
        rw [q] at e
        cases e
        exact ⟨b0, rfl, rfl⟩
    · rw [List.getElem?_append_right (by simpa using l), List.getElem?_replicate] at e
      split at e <;> cases e
  refine ⟨r, ⟨?_, fun i b e => ?_, fun i j d d' a _ e _ _ => ?_⟩, Ext.refl _ _ _, ⟨[], by simp, fun a h => absurd h (by simp)⟩, fun i d a e _ => ?_⟩
  · unfold enter L2.start
    simp
    omega
  · obtain ⟨b0, e1, e2⟩ := get i b e
    obtain ⟨v, h1, h2⟩ := brs.get e1
    refine ⟨v, ?_, by rw [e2]; exact h2.par⟩
    unfold L2.start
    have l : i < vs.length := (List.getElem?_eq_some_iff.mp h1).1
    rw [List.getElem?_append_left (by simpa using l), List.getElem?_map, h1]
    rfl
  · obtain ⟨b0, _, e2⟩ := get i _ e
    exact absurd e2.symm (par_own d)
  · obtain ⟨b0, _, e2⟩ := get i _ e
    exact absurd e2.symm (par_own d)
theorem leave_rel {μ' ν : List Addr} {F' H' : Hp} {S S' : Store} (r : Rel K F μ S H) (r' : Rel K F' μ' S' H') (e : μ' = μ ++ ν) : Rel K F' μ (S'.take S.length) H' := by
  have := r'.cut S.length
  rw [e, ← r.len, List.take_left' rfl] at this
  rw [r.len] at this
  exact this
end
section
variable {M : Ck} {G : Gx} {xc : Nat → Option XCls} {P : Program} {w : World} {K : PySem.W.Frag} {mg : Str → Option Value} {base : Heap}
/-- THE RULE for a def -/
theorem fn_run {CX : CXT} {k n : Nat} {i : FnI} {a : Addr} {fd : FuncData} (FD : FunD K i.x i.x (defArgs i.st) (defBody i.st) (defScope i.st) [] [] a fd) (hfa : He.ga K i.x = a) (hc : fnB M n i = true) (st : Sta M G xc k P w K mg base)
    {A : Around} {outer : List PySem.Env} {s : Shared} {H : Hp} {args : Args} {us : List Value} {vs : List V} {F : Hp} {μ : List Addr} {S : Store} {bs : List B} {Q : VK} {E E' : XK} (hr : Room (k + 1) A) (hgd : A.guards = some []) (e0 : Env0 P w K mg base A outer s H)
    (hb : us.length = i.ps.length → BindsTo s fd args (i.ps.zip us)) (rv : Vals vs us) (rel : Rel K F μ S H) (brs : BRs K F μ H vs bs) (hok : okC K xc μ F H (runF G i.f bs S) Q E')
    (htk : ∀ cdv, Takes (cxOf CX P w K mg base i.N i.x (defScope i.st) a cdv A outer s H E) fun cls d _ H => E' cls d H) :
    codeAny (model P w) A (.call (.ref a) args) (CR CX outer P w H s Q E) s := by
  obtain ⟨hc, h4⟩ := b2a hc
  obtain ⟨hc, h3⟩ := b2a hc
  obtain ⟨h1, h2⟩ := b2a hc
  have SC := scope_ok h1
  have h2 := of_decide_eq_true h2
  have h3 := of_decide_eq_true h3
  unfold runF at hok
  have hl : bs.length = i.f.params := Decidable.byContradiction fun z => by rw [if_neg z] at hok; exact hok.elim
  rw [if_pos hl] at hok
  have hv : vs.length = i.ps.length := by rw [brs.length, hl, h2]
  have hu : us.length = i.ps.length := by rw [← rv.length]; exact hv
  have hb := hb hu
  obtain ⟨oc, od, dV, kV, doc, pm, an, cdv, ct, osl, rfl, lk, hcd, _, _⟩ := FD.ex
  refine LamX.run_ofS (N := i.N) (ps := i.ps) (vs := vs) lk hcd SC hr e0 hb rv hv fun hr' => ⟨tMS K xc (fun cls d _ H => E' cls d H) (execs G i.f.body), ?_, ?_⟩
  · have g : Cg M G xc k ⟨i.N, defScope i.st, fun _ => true, M.mkr.any fun y => decide (y = i.x)⟩ (cxOf CX P w K mg base i.N i.x (defScope i.st) a cdv A outer s H E) (fun cls d _ H => E' cls d H) := by
      refine ⟨rfl, SC.nd, rfl, SC.kind, rfl, hr', hgd, htk cdv, fun _ _ => rfl, st, fun z => ?_⟩
      obtain ⟨y, hy, ey⟩ := List.any_eq_true.mp z
      have ey := of_decide_eq_true ey
      subst ey
      obtain ⟨t1, t2⟩ := st.mkr _ hy
      obtain ⟨c, ec⟩ := He.codeIn_ref hcd
      have e1 : (He.cT K (defn i.x)).1 = c := He.codeOf_eq (p := defn i.x) (by rw [show He.fAd K (defn i.x) = a from hfa]; exact lk) ec
      have lam : ∃ c P, cdv = .ref c ∧ LamX.TabB base mg c P ∧ (P, i.x ++ (".<locals>." : Str) ++ ("<lambda>" : Str)) ∈ tabT K := ⟨c, (He.cT K (defn i.x)).2, ec, by rw [← e1]; exact t1, t2⟩
      exact lam
    exact (chkS_ok M G xc k _ _ _ g (passes_of rfl) n).2 _ _ h4
  · refine ⟨F, μ, H, F, μ, S, enter i.f bs, enter_ok h3 hl rel brs, ?_⟩
    cases q : execs G i.f.body (enter i.f bs) S with
    | nx ρ' S' =>
      rw [q] at hok
      intro F' μ' H' σ' s'
      obtain ⟨ν, e, _⟩ := s'.pre
      exact hok F' H' .non s'.ext (leave_rel rel s'.rel e) .non trivial
    | rt b S' =>
      rw [q] at hok
      intro F' μ' H' v r' x' ⟨ν, e, hν⟩ bv fr hb
      refine hok F' H' v x' (leave_rel rel r' e) ?_ fr
      cases b with
      | t d => exact bv
      | own d =>
        obtain ⟨c, xs, ds, e1, e2, e3, e4, e5, e6⟩ := bv
        exact ⟨c, xs, ds, e1, e2, e3, e4, e5, fun z => e6 (by rw [e]; exact List.mem_append_left _ z)⟩
      | _ => cases hb
    | ex c p ρ' S' =>
      rw [q] at hok
      intro F' μ' H' σ' cls d s' xr
      obtain ⟨ν, e, _⟩ := s'.pre
      exact hok F' H' cls d s'.ext (leave_rel rel s'.rel e) xr
    | bk ρ' S' => rw [q] at hok; exact hok.elim
    | ct ρ' S' => rw [q] at hok; exact hok.elim
    | bad => rw [q] at hok; exact hok.elim
theorem fnC_ok {k n : Nat} {i : FnI} {a : Addr} {fd : FuncData} (FD : FunD K i.x i.x (defArgs i.st) (defBody i.st) (defScope i.st) [] [] a fd) (hfa : He.ga K i.x = a) (hc : fnB M n i = true) (st : Sta M G xc k P w K mg base)
    (hb : ∀ (s : Shared) (us : List Value), us.length = i.ps.length → BindsTo s fd ⟨us, []⟩ (i.ps.zip us)) : FnC P w K mg base xc (k + 1) a (runF G i.f) :=
  ⟨fun A outer s H us vs F μ S bs Q E hr hgd e0 rv rel brs hok => fn_run FD hfa hc st hr hgd e0 (hb s us) rv rel brs hok fun cdv => takes_of rfl rfl rfl rfl⟩
end
/-! ### the module -/
/-- a def that calls what it gets -/
structure TlI where
  x : Str
  st : Stmt
  tl : Tl
structure Lw where
  ck : Ck
  gcs : List D
  fns : List FnI
  sub : Nat → Nat → Bool := fun _ _ => false
  tls : List TlI := []
def Lw.md (L : Lw) : Md := ⟨L.gcs, L.fns.map (·.f), L.sub, L.tls.map (·.tl)⟩
def Lw.gx (L : Lw) (n : Nat) : Gx := L.md.gx n
/-- the check, all of it -/
def Lw.ok (L : Lw) (n : Nat) : Bool := (L.fns.all (fnB L.ck n)) && decide (L.fns.map (·.x) = L.ck.fnm) && (L.tls.all fun t => tlB L.ck t.tl t.st) && decide (L.tls.map (·.x) = L.ck.tlm)
/-- parameters are bound one by one -/
def Lw.Binds (L : Lw) : Prop := (∀ i ∈ L.fns, ∀ (kV doc pm : Value) (an : Option Addr) (cdv ct : Value) (us : List Value), us.length = i.ps.length → bindArgs (PySem.W.fnOf i.x i.x (defArgs i.st) (defBody i.st) (defScope i.st) .none kV doc pm an cdv ct) ⟨us, []⟩ = pure (i.ps.zip us)) ∧
  ∀ t ∈ L.tls, ParB t.x t.st
/-- what the head tells -/
structure HeadOk (L : Lw) (K : PySem.W.Frag) (mg : Str → Option Value) (base : Heap) : Prop where
  fns : ∀ i ∈ L.fns, ∃ fd, mg i.x = some (.ref (He.ga K i.x)) ∧ FunD K i.x i.x (defArgs i.st) (defBody i.st) (defScope i.st) [] [] (He.ga K i.x) fd
  gcs : ∀ (g : Nat) (x : Str) (d : D), L.ck.gcn[g]? = some x → L.gcs[g]? = some d → ∃ v u, mg x = some u ∧ RelV v u ∧ ∀ F, Rp K F v d
  free : ∀ x ∈ L.ck.free, mg x = none
  gcd : L.ck.gcd = true → mg "gcd" = some (.builtin "math.gcd")
  cls : ∀ x ∈ L.ck.clm, ClsOk K mg x
  sub : ∀ (c h : Nat) (x y : Str), L.ck.clm[c]? = some x → L.ck.clm[h]? = some y → PySem.W.exmOne K (.ref (He.ga K x)) (.ref (He.ga K y)) = some (L.sub c h)
  tls : ∀ i ∈ L.tls, ∃ fd, mg i.x = some (.ref (He.ga K i.x)) ∧ FunD K i.x i.x (defArgs i.st) (defBody i.st) (defScope i.st) [] [] (He.ga K i.x) fd
  mkr : ∀ x ∈ L.ck.mkr, LamX.TabB base mg (He.cT K (defn x)).1 (He.cT K (defn x)).2 ∧ ((He.cT K (defn x)).2, x ++ (".<locals>." : Str) ++ ("<lambda>" : Str)) ∈ tabT K
  tnd : ∀ p ∈ tabT K, ∀ q ∈ tabT K, p.1 = q.1 → p.2 = q.2
/-- the exceptions' classes -/
def Lw.xc (L : Lw) (K : PySem.W.Frag) : Nat → Option XCls := fun c => (L.ck.clm[c]?).map fun x => ⟨.ref (He.ga K x), none⟩
section
variable {L : Lw} {P : Program} {w : World} {K : PySem.W.Frag} {mg : Str → Option Value} {base : Heap}
theorem sta_ok {m : Nat} (hc : L.ok m = true) (hB : L.Binds) (hd : HeadOk L K mg base) : ∀ n, Sta L.ck (L.gx n) (L.xc K) n P w K mg base := by
  obtain ⟨hc, h4⟩ := b2a hc
  obtain ⟨hc, h3⟩ := b2a hc
  obtain ⟨h1, h2⟩ := b2a hc
  have h2 := of_decide_eq_true h2
  have h4 := of_decide_eq_true h4
  -- all of it but the functions
  have mk : ∀ n, (∀ (f : Nat) (x : Str), L.ck.fnm[f]? = some x → ∃ a, mg x = some (.ref a) ∧ PySem.W.keepIn K (.ref a) = true ∧ FnC P w K mg base (L.xc K) n a ((L.gx n).fn f)) →
      (∀ (j : Nat), n = j + 2 → ∀ (f : Nat) (x : Str), L.ck.fnm[f]? = some x → ∃ a, mg x = some (.ref a) ∧ PySem.W.keepIn K (.ref a) = true ∧ FnC P w K mg base (L.xc K) j a ((L.gx n).fn2 f)) → Sta L.ck (L.gx n) (L.xc K) n P w K mg base := fun n a b => by
    refine ⟨a, hd.gcs, hd.free, hd.gcd, fun c x e => ⟨hd.cls x (List.mem_of_getElem? e), by unfold Lw.xc; rw [e]; rfl⟩, fun c y e => ?_, hd.sub, fun t x tl e1 e2 => ?_, b, hd.mkr, hd.tnd⟩
    · unfold Lw.xc at e
      cases q : L.ck.clm[c]? with
      | none => rw [q] at e; cases e
      | some x => exact ⟨x, rfl⟩
    · have e2 : (if 2 ≤ n then fun t => (L.tls.map (·.tl))[t]? else fun _ => none) t = some tl := e2
      by_cases n2 : 2 ≤ n
      · refine ⟨⟨n - 2, by omega⟩, ?_⟩
        rw [if_pos n2] at e2
        rw [← h4, List.getElem?_map] at e1
        rw [List.getElem?_map] at e2
        cases q : L.tls[t]? with
        | none => rw [q] at e1; cases e1
        | some i =>
          rw [q] at e1 e2
          cases e1
          cases e2
          have hi := List.mem_of_getElem? q
          obtain ⟨fd, f1, f2⟩ := hd.tls i hi
          exact ⟨_, fd, i.st, f1, f2, hB.2 i hi, List.all_eq_true.mp h3 i hi⟩
      · rw [if_neg n2] at e2
        cases e2
  have fns : ∀ n, Sta L.ck (L.gx n) (L.xc K) n P w K mg base → ∀ (f : Nat) (x : Str), L.ck.fnm[f]? = some x → ∃ a, mg x = some (.ref a) ∧ PySem.W.keepIn K (.ref a) = true ∧ FnC P w K mg base (L.xc K) (n + 1) a ((L.gx (n + 1)).fn f) := fun n ih f x e => by
    rw [← h2, List.getElem?_map] at e
    cases q : L.fns[f]? with
    | none => rw [q] at e; cases e
    | some i =>
      rw [q] at e
      cases e
      obtain ⟨fd, e1, FD⟩ := hd.fns i (List.mem_of_getElem? q)
      refine ⟨_, e1, FD.kp, ?_⟩
      have hb := fun s us hl => FunD.bindsA FD (hB.1 i (List.mem_of_getElem? q)) s us hl
      have c := fnC_ok FD rfl (List.all_eq_true.mp h1 i (List.mem_of_getElem? q)) ih hb
      have e : (L.gx (n + 1)).fn f = runF (L.gx n) i.f := by
        funext args s
        show L.md.call (n + 1) f args s = _
        rw [Md.call_eq]
        show (match (L.fns.map (·.f))[f]? with
          | some f => runF (L.gx n) f args s
          | none => .bad) = _
        rw [List.getElem?_map, q]
        rfl
      rw [e]
      exact c
  have bad : ∀ n m, (∀ f, (L.gx n).fn f = fun _ _ => .bad) → ∀ (f : Nat) (x : Str), L.ck.fnm[f]? = some x → ∃ a, mg x = some (.ref a) ∧ PySem.W.keepIn K (.ref a) = true ∧ FnC P w K mg base (L.xc K) m a ((L.gx n).fn f) := fun n m z f x e => by
    rw [← h2, List.getElem?_map] at e
    cases q : L.fns[f]? with
    | none => rw [q] at e; cases e
    | some i =>
      rw [q] at e
      cases e
      obtain ⟨fd, e1, FD⟩ := hd.fns i (List.mem_of_getElem? q)
      rw [z]
      exact ⟨_, e1, FD.kp, fnC_bad⟩
  have both : ∀ n, Sta L.ck (L.gx n) (L.xc K) n P w K mg base ∧ Sta L.ck (L.gx (n + 1)) (L.xc K) (n + 1) P w K mg base := by
    intro n
    induction n with
    | zero =>
      have s0 : Sta L.ck (L.gx 0) (L.xc K) 0 P w K mg base := mk 0 (bad 0 0 fun f => rfl) fun j e => by omega
      exact ⟨s0, mk 1 (fns 0 s0) fun j e => by omega⟩
    | succ n ih =>
      refine ⟨ih.2, mk (n + 2) (fns (n + 1) ih.2) fun j e f x h => ?_⟩
      have ej : n = j := by omega
      subst ej
      exact ih.1.fns f x h
  exact fun n => (both n).1
end
end Zw
set_option Elab.async false
set_option linter.all false
set_option maxRecDepth 100000
/-! Zw14: the head's facts, the law's end. -/
namespace Zw
open PySem PySem.Spec PyProof.Rows L2
/-! ### the module's constants -/
mutual
def dIn (K : PySem.W.Frag) : D → Value → Bool
  | .non, .none => true
  | .bl b, .bool c => b == c
  | .int i, .int j _ => decide (i = j)
  | .str s, .str z _ => decide (s = z)
  | .tup ds, .ref a => (match K.lookup a with
    | some ⟨.type c, _, .seq its _, _⟩ => decide (c = "tuple") && decide (its.size ≤ sizeLine) && dsIn K ds its.toList
    | _ => false)
  | _, _ => false
def dsIn (K : PySem.W.Frag) : List D → List Value → Bool
  | [], [] => true
  | d :: ds, u :: us => dIn K d u && dsIn K ds us
  | _, _ => false
end
mutual
theorem dIn_ok {K : PySem.W.Frag} : ∀ (d : D) (u : Value), dIn K d u = true → ∃ v, RelV v u ∧ ∀ F, Rp K F v d
  | .non, u, h => by
    cases u with
    | none => exact ⟨.non, rfl, fun _ => .non⟩
    | _ => simp [dIn] at h
  | .bl b, u, h => by
    cases u with
    | bool c => simp [dIn] at h; exact ⟨.bl b, by rw [h]; rfl, fun _ => .bl b⟩
    | _ => simp [dIn] at h
  | .int i, u, h => by
    cases u with
    | int j t => simp [dIn] at h; exact ⟨.int i, ⟨t, by rw [h]⟩, fun _ => .int i⟩
    | _ => simp [dIn] at h
  | .str i, u, h => by
    cases u with
    | str j t => simp [dIn] at h; exact ⟨.str i, ⟨t, by rw [h]⟩, fun _ => .str i⟩
    | _ => simp [dIn] at h
  | .tup ds, u, h => by
    cases u with
    | ref a =>
      rw [dIn] at h
      cases q : K.lookup a with
      | none => rw [q] at h; cases h
      | some o =>
        obtain ⟨oc, od, dt, osl⟩ := o
        rw [q] at h
        cases oc with
        | type c =>
          cases dt with
          | seq its n =>
            have h : (decide (c = "tuple") && decide (its.size ≤ sizeLine) && dsIn K ds its.toList) = true := h
            obtain ⟨h, h3⟩ := b2a h
            obtain ⟨h1, h2⟩ := b2a h
            obtain ⟨vs, r1, r2⟩ := dsIn_ok ds its.toList h3
            exact ⟨.ref a, rfl, fun F => .tup (.inr ⟨_, its, n, q, congrArg Value.type (of_decide_eq_true h1), rfl, of_decide_eq_true h2, r1⟩) (r2 F)⟩
          | _ => cases h
        | _ => cases h
    | _ => simp [dIn] at h
  | .lst ds, u, h => by cases u <;> simp [dIn] at h
  | .ins c ds, u, h => by cases u <;> simp [dIn] at h
  | .dic, u, h => by cases u <;> simp [dIn] at h
theorem dsIn_ok {K : PySem.W.Frag} : ∀ (ds : List D) (us : List Value), dsIn K ds us = true → ∃ vs, Vals vs us ∧ ∀ F, RpL K F vs ds
  | [], us, h => by
    cases us with
    | nil => exact ⟨[], .nil, fun _ => .nil⟩
    | cons _ _ => simp [dsIn] at h
  | d :: ds, us, h => by
    cases us with
    | nil => simp [dsIn] at h
    | cons u us =>
      rw [dsIn] at h
      obtain ⟨h1, h2⟩ := b2a h
      obtain ⟨v, r1, r2⟩ := dIn_ok d u h1
      obtain ⟨vs, s1, s2⟩ := dsIn_ok ds us h2
      exact ⟨v :: vs, .cons r1 s1, fun F => .cons (r2 F) (s2 F)⟩
end
/-! ### tables -/
theorem tabT_mem {K : PySem.W.Frag} {p : Addr × Str} (h : p ∈ tabT K) : ∃ c, PySem.W.codeHdIn K c p.1 = true ∧ K.lookup p.1 = none := by
  unfold tabT at h
  obtain ⟨q, _, e⟩ := List.mem_filterMap.mp h
  have e : (match q.2.data with
    | .func fd => tabAt K fd
    | _ => none) = some p := e
  split at e
  · rename_i fd _
    unfold tabAt at e
    split at e
    · rename_i c _
      split at e
      · rename_i hb
        cases e
        obtain ⟨h1, h2⟩ := b2a hb
        exact ⟨c, h1, Option.isNone_iff_eq_none.mp h2⟩
      · cases e
    · cases e
  · cases e
theorem tabT_in {K : PySem.W.Frag} {a c : Addr} {oc : Value} {od : Option Addr} {osl : Array (Option Value)} {fd : FuncData} (lk : K.lookup a = some ⟨oc, od, .func fd, osl⟩) (ec : fd.code = .ref c) (h1 : PySem.W.codeHdIn K c (He.tabOf K c) = true) (h2 : K.lookup (He.tabOf K c) = none) :
    (He.tabOf K c, fd.qualname ++ (".<locals>." : Str) ++ ("<lambda>" : Str)) ∈ tabT K := by
  unfold tabT
  refine List.mem_filterMap.mpr ⟨(a, _), He.lookup_mem lk, ?_⟩
  show tabAt K fd = _
  unfold tabAt
  rw [ec]
  show (if (PySem.W.codeHdIn K c (He.tabOf K c) && (K.lookup (He.tabOf K c)).isNone) = true then _ else _) = _
  rw [h1, h2]
  rfl
/-! ### the Hook -/
def FnI.defD (i : FnI) : He.DefD := ⟨(i.x, none), i.x, i.x, defArgs i.st, defBody i.st, defScope i.st, [], []⟩
def TlI.defD (i : TlI) : He.DefD := ⟨(i.x, none), i.x, i.x, defArgs i.st, defBody i.st, defScope i.st, [], []⟩
def pairsF (sub : Nat → Nat → Bool) (xs : List Str) : List He.Fa := (xs.zipIdx).flatMap fun p => (xs.zipIdx).map fun q => He.Fa.exm p.1 q.1 (sub p.2 q.2)
def Lw.fa (L : Lw) : List He.Fa := L.fns.map (fun i => He.Fa.glo i.x) ++ (L.tls.map (fun i => He.Fa.glo i.x) ++ (L.ck.free.map He.Fa.free ++ (L.ck.clm.map He.Fa.glo ++ (L.ck.clm.map He.Fa.exc ++ pairsF L.sub L.ck.clm))))
def Lw.fn (L : Lw) : List He.DefD := L.fns.map FnI.defD ++ L.tls.map TlI.defD
def tndB (l : List (Addr × Str)) : Bool := l.all fun p => l.all fun q => !decide (p.1 = q.1) || decide (p.2 = q.2)
def Lw.more (L : Lw) (K : PySem.W.Frag) : Bool := ((L.ck.gcn.zip L.gcs).all fun p => match PySem.W.nsIn K mainGlobals p.1 with
  | some (some u) => dIn K p.2 u
  | _ => false) && (!L.ck.gcd || match PySem.W.nsIn K mainGlobals "gcd" with
  | some (some (.builtin id)) => decide (id = "math.gcd")
  | _ => false) && (L.ck.mkr.all fun x => L.fns.any (fun i => decide (i.x = x)) && PySem.W.codeHdIn K (He.cT K (defn x)).1 (He.cT K (defn x)).2 && (K.lookup (He.cT K (defn x)).2).isNone) && tndB (tabT K)
/-- the tables are empty still -/
def tabsE (g : Addr → Option Obj) (K : PySem.W.Frag) : Bool := (tabT K).all fun p => match g p.1 with
  | some o => He.emptyTab o
  | none => false
def Lw.obsG (L : Lw) (g : Addr → Option Obj) (K : PySem.W.Frag) : Bool × He.AlD := (L.more K && tabsE g K, He.obsD L.fa L.fn K)
theorem tabsE_ok {h : Heap} {K : PySem.W.Frag} (e : tabsE h.get? K = true) : ∀ p ∈ tabT K, h.get? p.1 = some { cls := .none, data := .fields #[] } := fun p hp => by
  have z := List.all_eq_true.mp e p hp
  cases q : h.get? p.1 with
  | none => rw [q] at z; cases z
  | some o =>
    rw [q] at z
    rw [He.emptyTab_eq z]
def Lw.hook (L : Lw) (n : Nat) : PySem.W.Hook where
  α := Bool × He.AlD
  obs := fun s => L.obsG s.heap.get? (He.frT s.heap.get? (He.asD s.heap.get? n))
  val := fun _ => (true, He.valD L.fn)
  says := fun _ h => ∃ K : PySem.W.Frag, K.In h ∧ L.more K = true ∧ He.SaysD L.fa L.fn K ∧ ∀ p ∈ tabT K, h.get? p.1 = some { cls := .none, data := .fields #[] }
  of := fun _ _ e => by
    obtain ⟨e1, e2⟩ := b2a (congrArg (fun z : Bool × He.AlD => z.1) e)
    exact ⟨_, He.frT_in, e1, congrArg (fun z : Bool × He.AlD => z.2) e, tabsE_ok e2⟩
  keeps := fun _ _ _ ⟨K, hK, c, d, t⟩ k => ⟨K, PySem.W.Frag.In.keeps hK k, c, d, fun p hp => k _ _ (t p hp)⟩
def Lw.ob (L : Lw) (n : Nat) (s : PySem.W.SharedT) : Bool × He.AlD := L.obsG (HandSHeadRun.getT s) (He.frT (HandSHeadRun.getT s) (He.asD (HandSHeadRun.getT s) n))
theorem Lw.ob_eq (L : Lw) (n : Nat) (s : PySem.W.SharedT) : L.ob n s = (L.hook n).obs s.abs := by
  have e : HandSHeadRun.getT s = s.abs.heap.get? := funext (HandSHeadRun.getT_eq s)
  unfold Lw.ob
  rw [e]
  rfl
theorem pairsF_mem {sub : Nat → Nat → Bool} {xs : List Str} {c h : Nat} {x y : Str} (hc : xs[c]? = some x) (hh : xs[h]? = some y) : He.Fa.exm x y (sub c h) ∈ pairsF sub xs := by
  unfold pairsF
  refine List.mem_flatMap.mpr ⟨(x, c), List.mem_zipIdx_iff_getElem?.mpr hc, ?_⟩
  exact List.mem_map.mpr ⟨(y, h), List.mem_zipIdx_iff_getElem?.mpr hh, rfl⟩
theorem head_ok {L : Lw} {K : PySem.W.Frag} {h base : Heap} {mg : Str → Option Value} (X : K.In h) (G : h.Ns mainGlobals mg) (m : L.more K = true) (c : He.SaysD L.fa L.fn K) (TB : ∀ p ∈ tabT K, base.BuiltinsAt mg p.1 ∧ mainGlobals ≠ p.1) (XB : K.In base) : HeadOk L K mg base := by
  obtain ⟨m, m4⟩ := b2a m
  obtain ⟨m, m3⟩ := b2a m
  obtain ⟨m1, m2⟩ := b2a m
  have facts : ∀ f ∈ L.fa, f.ok K = true := fun f hf => c.facts hf
  have fac : ∀ (f : He.Fa), (f ∈ L.fns.map (fun i => He.Fa.glo i.x) ∨ f ∈ L.tls.map (fun i => He.Fa.glo i.x) ∨ f ∈ L.ck.free.map He.Fa.free ∨ f ∈ L.ck.clm.map He.Fa.glo ∨ f ∈ L.ck.clm.map He.Fa.exc ∨ f ∈ pairsF L.sub L.ck.clm) → f.ok K = true := fun f hf => by
    refine facts f ?_
    unfold Lw.fa
    simp only [List.mem_append]
    exact hf
  have fns : ∀ i ∈ L.fns, ∃ fd, mg i.x = some (.ref (He.ga K i.x)) ∧ FunD K i.x i.x (defArgs i.st) (defBody i.st) (defScope i.st) [] [] (He.ga K i.x) fd := fun i hi => by
    obtain ⟨fd, F⟩ := c.defs (d := i.defD) (List.mem_append_left _ (List.mem_map_of_mem (f := FnI.defD) hi))
    exact ⟨fd, He.glo_ok X G (fac _ (.inl (List.mem_map_of_mem (f := fun i => He.Fa.glo i.x) hi))), F⟩
  have tnd : ∀ p ∈ tabT K, ∀ q ∈ tabT K, p.1 = q.1 → p.2 = q.2 := fun p hp q hq e => by
    have z := List.all_eq_true.mp (List.all_eq_true.mp m4 p hp) q hq
    rcases Bool.or_eq_true_iff.mp z with z | z
    · simp [e] at z
    · exact of_decide_eq_true z
  refine ⟨fns, fun g x d e1 e2 => ?_, fun x hx => ?_, fun hg => ?_, fun x hx => ?_, fun cc hh x y e1 e2 => ?_, fun i hi => ?_, fun x hx => ?_, tnd⟩
  · have hm : (x, d) ∈ L.ck.gcn.zip L.gcs := List.mem_of_getElem? (i := g) (by rw [List.getElem?_zip_eq_some]; exact ⟨e1, e2⟩)
    have := List.all_eq_true.mp m1 _ hm
    cases q : PySem.W.nsIn K mainGlobals x with
    | none => simp [q] at this
    | some o =>
      cases o with
      | none => simp [q] at this
      | some u =>
        simp only [q] at this
        obtain ⟨v, r1, r2⟩ := dIn_ok d u this
        exact ⟨v, u, PySem.W.mg_of X G q, r1, r2⟩
  · exact He.free_ok X G (fac _ (.inr (.inr (.inl (List.mem_map_of_mem (f := He.Fa.free) hx)))))
  · rw [hg] at m2
    have m2 : (match PySem.W.nsIn K mainGlobals "gcd" with
      | some (some (.builtin id)) => decide (id = "math.gcd")
      | _ => false) = true := m2
    split at m2
    · rename_i id q
      rw [of_decide_eq_true m2] at q
      exact PySem.W.mg_of X G q
    · cases m2
  · obtain ⟨z1, z2, z3, z4⟩ := He.exc_ok (fac (.exc x) (.inr (.inr (.inr (.inr (.inl (List.mem_map_of_mem (f := He.Fa.exc) hx)))))))
    exact ⟨He.glo_ok X G (fac _ (.inr (.inr (.inr (.inl (List.mem_map_of_mem (f := He.Fa.glo) hx)))))), z1, z2, z3, z4⟩
  · exact He.exm_ok (fac _ (.inr (.inr (.inr (.inr (.inr (pairsF_mem e1 e2)))))))
  · obtain ⟨fd, F⟩ := c.defs (d := i.defD) (List.mem_append_right _ (List.mem_map_of_mem (f := TlI.defD) hi))
    exact ⟨fd, He.glo_ok X G (fac _ (.inr (.inl (List.mem_map_of_mem (f := fun (i : TlI) => He.Fa.glo i.x) hi)))), F⟩
  · obtain ⟨z, z3⟩ := b2a (List.all_eq_true.mp m3 x hx)
    obtain ⟨z1, z2⟩ := b2a z
    obtain ⟨i, hi, ei⟩ := List.any_eq_true.mp z1
    have ei := of_decide_eq_true ei
    subst ei
    obtain ⟨fd, _, FD⟩ := fns i hi
    obtain ⟨oc, od, dV, kV, doc, pm, an, cdv, ct, osl, rfl, lk, hcd, _, _⟩ := FD.ex
    obtain ⟨cc, ec⟩ := He.codeIn_ref hcd
    have e1 : (He.cT K (defn i.x)).1 = cc := He.codeOf_eq (p := defn i.x) lk ec
    have e2 : (He.cT K (defn i.x)).2 = He.tabOf K cc := by
      show He.tabOf K (He.cT K (defn i.x)).1 = _
      rw [e1]
    have z3 := Option.isNone_iff_eq_none.mp z3
    have mem0 := tabT_in lk ec (by rw [← e2, ← e1]; exact z2) (by rw [← e2]; exact z3)
    have mem : (He.tabOf K cc, i.x ++ (".<locals>." : Str) ++ ("<lambda>" : Str)) ∈ tabT K := mem0
    obtain ⟨t1, t2⟩ := TB _ mem
    rw [e2, e1]
    rw [e2, e1] at z2
    exact ⟨⟨PySem.W.codeHd_of_K XB z2, t1, t2⟩, mem⟩
/-! ### the call of the law -/
section
variable {P : Program} {w : World} {K : PySem.W.Frag} {mg mb : Str → Option Value} {fa a : Addr} {s₁ : Shared} {vs : List Value} {ns : List Int}
/-- the script, unless it is one of the module's own objects, and the tables are tracked -/
def scH (K : PySem.W.Frag) (a : Addr) (vs : List Value) (ns : List Int) : Hp := fun b => match decide (b = a), K.lookup a, (tabT K).any fun p => decide (p.1 = b) with
  | true, none, _ => some (.frz { cls := .type "list", data := .seq vs.toArray } (.lst (ns.map V.int)))
  | true, some _, _ => none
  | false, _, true => some (.tbl #[])
  | false, _, false => none
theorem scH_some {b : Addr} {u : HO} (h : scH K a vs ns b = some u) : (b = a ∧ K.lookup a = none ∧ u = .frz { cls := .type "list", data := .seq vs.toArray } (.lst (ns.map V.int))) ∨ (b ≠ a ∧ (∃ p ∈ tabT K, p.1 = b) ∧ u = .tbl #[]) := by
  unfold scH at h
  split at h
  · rename_i e1 e2
    cases h
    exact .inl ⟨of_decide_eq_true e1, e2, rfl⟩
  · cases h
  · rename_i e1 e2
    cases h
    obtain ⟨p, hp, ep⟩ := List.any_eq_true.mp e2
    exact .inr ⟨of_decide_eq_false e1, ⟨p, hp, of_decide_eq_true ep⟩, rfl⟩
  · cases h
theorem law_callZ (KX : K.In s₁.heap) (hT : ∀ p ∈ tabT K, s₁.heap.get? p.1 = some { cls := .none, data := .fields #[] }) (hns : s₁.heap.Ns mainGlobals mg) (hb : s₁.heap.Ns builtinsNs mb) (hbb : ∀ x : Str, x ≠ "__name__" → mb x = bootBuiltins x) (hlim : s₁.heap.NoLimit) (hg : s₁.gens = #[])
    (hbm : ∃ (bm : Addr) (ob : Obj), mg "__builtins__" = some (.ref bm) ∧ bm ≠ builtinsNs ∧ s₁.heap.get? bm = some ob ∧ ob.cls = .type "module" ∧ ob.dict = some builtinsNs ∧ ob.data = .plain)
    (ha : s₁.heap.get? a = some { cls := .type "list", data := .seq vs.toArray }) (hi : IntsAre vs ns) (hl : ns.length ≤ sizeLine)
    (run : ∀ (base : Heap) (H : Hp), K.In base → (∀ p ∈ tabT K, base.BuiltinsAt mg p.1 ∧ mainGlobals ≠ p.1) → Env0 P w K mg base callerA [] s₁ H → LamX.Tabs (tabT K) H → ScAt K [] H a (ns.map V.int) →
      codeAny (model P w) callerA (.call (.ref fa) ⟨[.ref a], []⟩) (CR CX0 [] P w H s₁ (fun v _ => v = .bl true) fun _ _ _ => False) s₁) :
    codeAny (model P w) callerA (.call (.ref fa) ⟨[.ref a], []⟩) (fun r s' => r = .ok (.ret (.bool true)) ∧ OldK s₁.heap s'.heap ∧ s'.os = s₁.os ∧ AllBare s'.gens) s₁ := by
  have rv := vals_ints hi
  have hlen := hi.length
  have aT : ∀ p ∈ tabT K, p.1 ≠ a := fun p hp z => by
    have e := hT p hp
    rw [z, ha] at e
    cases e
  have tab : ∀ p ∈ tabT K, scH K a vs ns p.1 = some (.tbl #[]) := fun p hp => by
    unfold scH
    rw [decide_eq_false (aT p hp), show ((tabT K).any fun q => decide (q.1 = p.1)) = true from List.any_eq_true.mpr ⟨p, hp, decide_eq_true rfl⟩]
  have up : ∀ {b : Addr} {o : Obj}, s₁.heap.get? b = some o → (b = a → K.lookup a ≠ none) → (o.data ≠ .fields #[] ∨ K.lookup b ≠ none) → (hidT s₁.heap (scH K a vs ns)).get? b = some o := fun {b o} e n nt => hidT_get e (by
    cases q : scH K a vs ns b with
    | none => rfl
    | some u =>
      rcases scH_some q with ⟨q1, q2, _⟩ | ⟨_, ⟨p, hp, ep⟩, _⟩
      · exact absurd q2 (n q1)
      · rcases nt with nt | nt
        · have e2 := hT p hp
          rw [ep, e] at e2
          cases e2
          exact absurd rfl nt
        · obtain ⟨_, _, z⟩ := tabT_mem hp
          rw [ep] at z
          exact absurd z nt)
  have nsUp : ∀ {b : Addr} {m : Str → Option Value}, s₁.heap.Ns b m → (hidT s₁.heap (scH K a vs ns)).Ns b m := fun {b m} ⟨o, es, ep, e, d, r⟩ => ⟨o, es, ep, up e (fun z => by
    subst z
    rw [ha] at e
    cases e
    have d' : Data.seq vs.toArray _ = Data.dict es ep := d
    cases d') (.inl fun z => by rw [d] at z; cases z), d, r⟩
  have kUp : K.In (hidT s₁.heap (scH K a vs ns)) := fun b o e => up (KX b o e) (fun z => by
    subst z
    rw [e]
    intro z
    cases z) (.inr (by rw [e]; intro z; cases z))
  have hok : HOk P w (scH K a vs ns) s₁.heap := fun b u z => by
    rcases scH_some z with ⟨e1, _, e3⟩ | ⟨_, ⟨p, hp, ep⟩, e3⟩
    · subst e1 e3
      exact ⟨ha, by rw [List.length_map]; exact hl, vs, _, rv, ha⟩
    · subst e3 ep
      exact hT p hp
  have e0 : Env0 P w K mg (hidT s₁.heap (scH K a vs ns)) callerA [] s₁ (scH K a vs ns) :=
    ⟨rfl, ⟨kUp, nsUp hns, ⟨mb, nsUp hb, hbb⟩, let ⟨mc, h1, h2⟩ := hlim; ⟨mc, nsUp h1, h2⟩⟩, fun b o e => of_hidT e, Nat.le_of_eq (hidT_size _ _), trivial, fun b hb => absurd (show b ∈ ([] : List Addr) from hb) (by simp), hok, .of_eq hg⟩
  have TB : ∀ p ∈ tabT K, (hidT s₁.heap (scH K a vs ns)).BuiltinsAt mg p.1 ∧ mainGlobals ≠ p.1 := fun p hp => by
    obtain ⟨bm, ob, b1, b2, b3, b4, b5, b6⟩ := hbm
    have hTp := hT p hp
    have nG : bm ≠ mainGlobals := fun z => by
      obtain ⟨o, es, ep, e, hd, _⟩ := hns
      rw [z, e] at b3
      cases b3
      rw [b6] at hd
      cases hd
    have nP : bm ≠ p.1 := fun z => by
      rw [z, hTp] at b3
      cases b3
      cases b6
    refine ⟨⟨bm, ob, b1, b2, nG, nP, up b3 (fun z => ?_) (.inl fun z => by rw [b6] at z; cases z), b4, b5, b6⟩, fun z => ?_⟩
    · rw [z, ha] at b3
      cases b3
      cases b6
    · obtain ⟨o, es, ep, e, hd, _⟩ := hns
      rw [z, hTp] at e
      cases e
      cases hd
  have sc : ScAt K [] (scH K a vs ns) a (ns.map V.int) := by
    cases hk : K.lookup a with
    | some o =>
      have e := KX a o hk
      rw [ha] at e
      cases e
      exact .inr ⟨_, vs.toArray, _, hk, rfl, rfl, rfl, by rw [List.size_toArray, hlen]; exact hl, by simpa using rv⟩
    | none => exact .inl ⟨_, by unfold scH; rw [hk, decide_eq_true rfl], by simp⟩
  have tabs : LamX.Tabs (tabT K) (scH K a vs ns) := fun p hp => LamX.TabS.nil (tab p hp)
  refine codeAny_mono (run _ _ kUp TB e0 tabs sc) fun r s' h => ?_
  cases r with
  | error e => exact False.elim h
  | ok fl =>
    cases fl with
    | next => exact False.elim h
    | brk => exact False.elim h
    | cont => exact False.elim h
    | ret u =>
      obtain ⟨v, H', os, bare, un, hok', r', q⟩ := h
      have q' : v = .bl true := q
      subst q'
      obtain rfl : u = Value.bool true := r'
      have kept : ∀ b o, s₁.heap.get? b = some o → (∀ p ∈ tabT K, p.1 ≠ b) → s'.heap.get? b = some o := fun b o e nb => by
        cases q : scH K a vs ns b with
        | none => exact un.keep b o e q (by intro z; exact absurd (show b ∈ ([] : List Addr) from z) (by simp)) (by simp)
        | some u =>
          rcases scH_some q with ⟨e1, _, e3⟩ | ⟨_, ⟨p, hp, ep⟩, _⟩
          · subst e1 e3
            rw [ha] at e
            cases e
            exact (hok' _ _ (un.frzs _ _ _ q)).1
          · exact absurd ep (nb p hp)
      have grown : ∀ p ∈ tabT K, ∃ more : Array Value, s'.heap.get? p.1 = some { cls := .none, data := .fields more } := fun p hp => by
        obtain ⟨more, z⟩ := un.tbls p.1 #[] (tab p hp)
        exact ⟨_, hok' p.1 _ z⟩
      refine ⟨rfl, ⟨fun b o e => ?_, fun b o e => ?_⟩, os, bare⟩
      · by_cases hb : ∃ p ∈ tabT K, p.1 = b
        · obtain ⟨p, hp, ep⟩ := hb
          subst ep
          obtain ⟨more, hm⟩ := grown p hp
          have e2 := hT p hp
          rw [e2] at e
          cases e
          obtain ⟨c, hc, _⟩ := tabT_mem hp
          exact .inr (.inl ⟨((PySem.W.codeHd_of_K KX hc).tab e2).isCodeTable, rfl, #[], more, rfl, by rw [Array.empty_append]; exact hm⟩)
        · exact .inl (kept b o e fun p hp z => hb ⟨p, hp, z⟩)
      · by_cases hb : ∃ p ∈ tabT K, p.1 = b
        · obtain ⟨p, hp, ep⟩ := hb
          subst ep
          obtain ⟨more, hm⟩ := grown p hp
          exact ⟨_, hm⟩
        · exact ⟨o, kept b o e fun p hp z => hb ⟨p, hp, z⟩⟩
theorem rpl_of_ints {F : Hp} : ∀ ns : List Int, RpL K F (ns.map V.int) (ns.map D.int)
  | [] => .nil
  | n :: ns => .cons (.int n) (rpl_of_ints ns)
end
theorem rel_nil (K : PySem.W.Frag) (H : Hp) (t : LamX.Tabs (tabT K) H) : Rel K (fun _ => none) [] [] H := by
  refine ⟨fun b o e => ?_, rfl, List.nodup_nil, fun k b xs e _ => ?_, fun b hb => ?_, fun b o e => ?_, t⟩
  · cases e
  · simp at e
  · simp at hb
  · cases e
/-- THE END: a law by its core -/
theorem law_end {l : PySem.W.OpenLaw} {L : Lw} {q : Program} {loose : List Str} {XP : (Str → Option Value) → Heap → Prop} {d : DefRec} {m k j n nn : Nat} {i : FnI} (hn : l.most = some n) (hn2 : n ≤ sizeLine) (hdf : d.params.defaults = []) (hc : L.ok m = true) (hB : L.Binds) (hr : Room (k + 1) callerA)
    (hj : L.fns[j]? = some i) (hd : d.name = i.x)
    (main : ∀ ns : List Int, ns.length ≤ n → (∀ x ∈ ns, Builtin.Int.intBits x ≤ 1048576) → L.md.call (k + 1) j [.sc (.lst (ns.map D.int))] [] = .ok (.t (.bl true)) []) :
    PySem.W.WalkO q loose XP (L.hook nn).says l.row.toRowW d [] (fun f vs => PySem.call f vs) := by
  refine Att.attach_callB hn hdf fun w s₀ s₁ mg mb fa o pm cd doc a vs ns G Y ho hd' hcd hmg hobj hints hlen hbits hg => ?_
  obtain ⟨K, KX, Y1, Y2, Y3⟩ := Y
  refine law_callZ KX Y3 G.T.g G.T.b G.T.builtins G.T.nolimit hg G.T.bmain hobj hints (Nat.le_trans hlen hn2) fun base Hp0 XB TB e0 tabs sc => ?_
  have H := head_ok KX G.T.g Y1 Y2 TB XB
  obtain ⟨fd, e1, FD⟩ := H.fns i (List.mem_of_getElem? hj)
  rw [hd, e1] at hmg
  cases hmg
  obtain ⟨h1, _⟩ := b2a hc
  obtain ⟨h1, _⟩ := b2a h1
  obtain ⟨h1, _⟩ := b2a h1
  have st := sta_ok (P := l.prog) (w := w) (base := base) hc hB H k
  have hm := main ns hlen hbits
  have e : L.md.call (k + 1) j [.sc (.lst (ns.map D.int))] [] = runF (L.gx k) i.f [.sc (.lst (ns.map D.int))] [] := by
    rw [Md.call_eq]
    show (match (L.fns.map (·.f))[j]? with
      | some f => runF (L.gx k) f _ _
      | none => .bad) = _
    rw [List.getElem?_map, hj]
    rfl
  rw [e] at hm
  refine fn_run (xc := L.xc K) (vs := [.ref a]) (F := fun _ => none) (μ := []) (S := []) (bs := [.sc (.lst (ns.map D.int))]) (E' := fun _ _ _ => False) FD rfl (List.all_eq_true.mp h1 i (List.mem_of_getElem? hj)) st hr rfl e0
    (fun hu => FunD.bindsA FD (hB.1 i (List.mem_of_getElem? hj)) s₁ _ hu) (.cons rfl .nil) (rel_nil K _ tabs)
    (.cons ⟨a, ns.map V.int, ns.map D.int, rfl, rfl, sc, rpl_of_ints ns⟩ .nil) ?_ fun cdv => fun u s' ⟨_, _, _, _, _, _, _, _, _, _, _, _, _, _, _, _, z⟩ => z.elim
  rw [hm]
  intro F' H' v x r bv fr
  exact rp_bl bv
end Zw
set_option linter.all false
set_option maxRecDepth 100000
/-! Zp0: plain lemmas about the core's values: what repr and == may be asked of; calls. -/
namespace Zw
open PySem
/-! ### sizes -/
mutual
/-- no instance within, ints of at most 1900 bits, good texts -/
def D.Fine : D → Prop
  | .non => True
  | .bl _ => True
  | .int i => i.natAbs < 2 ^ 1900
  | .str s => PyData.strOk s = true
  | .tup xs => D.Fines xs
  | .lst xs => D.Fines xs
  | .ins _ _ => False
  | .dic => False
def D.Fines : List D → Prop
  | [] => True
  | x :: xs => x.Fine ∧ D.Fines xs
end
mutual
/-- no shorter than the value's text -/
def D.wt : D → Nat
  | .non => 4
  | .bl _ => 5
  | .int _ => 1921
  | .str s => 10 * s.length + 2
  | .tup xs => 3 + D.wts xs
  | .lst xs => 3 + D.wts xs
  | .ins _ _ => 0
  | .dic => 0
def D.wts : List D → Nat
  | [] => 0
  | x :: xs => x.wt + 2 + D.wts xs
end
mutual
def D.dep : D → Nat
  | .tup xs => D.deps xs + 1
  | .lst xs => D.deps xs + 1
  | _ => 0
def D.deps : List D → Nat
  | [] => 0
  | x :: xs => max x.dep (D.deps xs)
end
mutual
theorem fine_plain : ∀ (d : D), d.Fine → d.plain = true
  | .non, _ => rfl
  | .bl _, _ => rfl
  | .int _, _ => rfl
  | .str _, _ => rfl
  | .tup xs, h => by rw [D.plain]; exact fines_plain xs (by rw [D.Fine] at h; exact h)
  | .lst xs, h => by rw [D.plain]; exact fines_plain xs (by rw [D.Fine] at h; exact h)
  | .ins _ _, h => by rw [D.Fine] at h; exact h.elim
  | .dic, h => by rw [D.Fine] at h; exact h.elim
theorem fines_plain : ∀ (xs : List D), D.Fines xs → D.plains xs = true
  | [], _ => rfl
  | x :: xs, h => by
    rw [D.Fines] at h
    rw [D.plains, fine_plain x h.1, fines_plain xs h.2]
    rfl
end
mutual
theorem fine_lay : ∀ (d : D), d.Fine → d.py.canLay0 = true
  | .non, _ => rfl
  | .bl _, _ => rfl
  | .int _, _ => rfl
  | .str s, h => by rw [D.Fine] at h; rw [D.py, PyData.canLay0]; exact h
  | .tup xs, h => by rw [D.py, PyData.canLay0]; exact fines_lay xs (by rw [D.Fine] at h; exact h)
  | .lst xs, h => by rw [D.py, PyData.canLay0]; exact fines_lay xs (by rw [D.Fine] at h; exact h)
  | .ins _ _, h => by rw [D.Fine] at h; exact h.elim
  | .dic, h => by rw [D.Fine] at h; exact h.elim
theorem fines_lay : ∀ (xs : List D), D.Fines xs → PyData.canLayAll0 (D.pys xs) = true
  | [], _ => rfl
  | x :: xs, h => by
    rw [D.Fines] at h
    rw [D.pys, PyData.canLayAll0, fine_lay x h.1, fines_lay xs h.2]
    rfl
end
theorem log_small {n k : Nat} (hk : 0 < k) (h : n < 2 ^ k) : n.log2 < k := by
  by_cases e : n = 0
  · subst e; simpa using hk
  · exact (Nat.log2_lt e).mpr h
mutual
theorem fine_showable : ∀ (d : D), d.Fine → d.py.showable = true
  | .non, _ => rfl
  | .bl _, _ => rfl
  | .int i, h => by
    rw [D.Fine] at h
    rw [D.py, PyData.showable]
    exact decide_eq_true (Nat.lt_trans (log_small (k := 1900) (by decide) h) (by decide))
  | .str s, h => rfl
  | .tup xs, h => by rw [D.py, PyData.showable]; exact fines_showable xs (by rw [D.Fine] at h; exact h)
  | .lst xs, h => by rw [D.py, PyData.showable]; exact fines_showable xs (by rw [D.Fine] at h; exact h)
  | .ins _ _, h => by rw [D.Fine] at h; exact h.elim
  | .dic, h => by rw [D.Fine] at h; exact h.elim
theorem fines_showable : ∀ (xs : List D), D.Fines xs → PyData.showableAll (D.pys xs) = true
  | [], _ => rfl
  | x :: xs, h => by
    rw [D.Fines] at h
    rw [D.pys, PyData.showableAll, fine_showable x h.1, fines_showable xs h.2]
    rfl
end
mutual
theorem dep_eq : ∀ (d : D), d.py.depth = d.dep
  | .non => rfl
  | .bl _ => rfl
  | .int _ => rfl
  | .str _ => rfl
  | .tup xs => by rw [D.py, PyData.depth, D.dep, deps_eq xs]
  | .lst xs => by rw [D.py, PyData.depth, D.dep, deps_eq xs]
  | .ins _ _ => rfl
  | .dic => rfl
theorem deps_eq : ∀ (xs : List D), PyData.depthAll (D.pys xs) = D.deps xs
  | [] => rfl
  | x :: xs => by rw [D.pys, PyData.depthAll, D.deps, dep_eq x, deps_eq xs]
end
theorem eqOk_of {a b : D} (ha : a.Fine) (hb : b.Fine) (da : a.dep ≤ 64) (db : b.dep ≤ 64) : eqOk a b = true := by
  unfold eqOk SeqAt.shaped
  rw [fine_plain a ha, fine_plain b hb, fine_lay a ha, fine_lay b hb, dep_eq, dep_eq, decide_eq_true da, decide_eq_true db]
  simp
theorem textFrom_le : ∀ (ts : List Str) (k : Nat) (acc : Str), (textFrom k acc ts).length ≤ acc.length + (ts.map fun t => t.length + 2).sum
  | [], _, _ => Nat.le_refl _
  | t :: ts, k, acc => by
    rw [textFrom]
    refine Nat.le_trans (textFrom_le ts _ _) ?_
    rw [strLen_append, strLen_append, List.map_cons, List.sum_cons]
    have : (Str.ofString (if k > 0 then ", " else "")).length ≤ 2 := by
      split <;> decide
    omega
theorem listText_le (ts : List Str) : (listText ts).length ≤ 2 + (ts.map fun t => t.length + 2).sum := by
  unfold listText
  rw [strLen_append]
  have h1 := textFrom_le ts 0 "["
  have h2 : ("[" : Str).length = 1 := rfl
  have h3 : ("]" : Str).length = 1 := rfl
  omega
theorem tupleText_le (ts : List Str) : (tupleText ts).length ≤ 3 + (ts.map fun t => t.length + 2).sum := by
  unfold tupleText
  rw [strLen_append, strLen_append]
  have h1 : (Str.join ", " ts).length ≤ (ts.map fun t => t.length + 2).sum := by
    by_cases e : ts = []
    · subst e; decide
    · have := join_length_add ts e
      unfold piled at this
      omega
  have h2 : ("(" : Str).length = 1 := rfl
  have h3 : (Str.ofString (if ts.length == 1 then ",)" else ")")).length ≤ 2 := by split <;> decide
  omega
mutual
theorem shown_le : ∀ (d : D), d.Fine → d.py.shown.length ≤ d.wt
  | .non, _ => by decide
  | .bl b, _ => by cases b <;> decide
  | .int i, h => by
    rw [D.Fine] at h
    rw [D.py, PyData.shown, D.wt]
    have := int_text_length_le (a := i) (k := 1900) (by decide) (log_small (by decide) h)
    show (Str.ofString (toString i)).length ≤ 1921
    rw [Str.ofString_eq_toList]
    show ((toString i).toList.map Char.toNat).toArray.size ≤ 1921
    simp only [List.size_toArray, List.length_map, String.length_toList]
    omega
  | .str s, h => by
    rw [D.Fine] at h
    rw [D.py, PyData.shown, D.wt]
    refine StrLaws.reprText_len s fun c hc => ?_
    have h2 : s.cps.all (· < 0x110000) = true := h
    rw [← Array.all_toList] at h2
    have := List.all_eq_true.mp h2 c hc
    have := of_decide_eq_true this
    omega
  | .tup xs, h => by
    rw [D.Fine] at h
    rw [D.py, PyData.shown, D.wt]
    have := tupleText_le (PyData.shownAll (D.pys xs))
    have := showns_le xs h
    omega
  | .lst xs, h => by
    rw [D.Fine] at h
    rw [D.py, PyData.shown, D.wt]
    have := listText_le (PyData.shownAll (D.pys xs))
    have := showns_le xs h
    omega
  | .ins _ _, h => by rw [D.Fine] at h; exact h.elim
  | .dic, h => by rw [D.Fine] at h; exact h.elim
theorem showns_le : ∀ (xs : List D), D.Fines xs → ((PyData.shownAll (D.pys xs)).map fun t => t.length + 2).sum ≤ D.wts xs
  | [], _ => Nat.le_refl _
  | x :: xs, h => by
    rw [D.Fines] at h
    rw [D.pys, PyData.shownAll, List.map_cons, List.sum_cons, D.wts]
    have := shown_le x h.1
    have := showns_le xs h.2
    omega
end
theorem reprOk_of {d : D} (h : d.Fine) (hw : d.wt ≤ line) (hd : d.dep ≤ 64) : reprOk d = true := by
  unfold reprOk
  rw [fine_plain d h, fine_showable d h, dep_eq, decide_eq_true hd, decide_eq_true (Nat.le_trans (shown_le d h) hw)]
  rfl
/-! ### equality -/
theorem eqB_int (i j : Int) : eqB (.int i) (.int j) = (i == j) := by unfold eqB; rw [D.py, D.py, PyData.eqv]
theorem eqB_str (i j : Str) : eqB (.str i) (.str j) = (i == j) := by unfold eqB; rw [D.py, D.py, PyData.eqv]
end Zw
set_option linter.all false
set_option maxRecDepth 100000
/-! Zp1: plain lemmas: calls, products, walks. -/
namespace Zw
open PySem
theorem cs_t1 {F : List B → Store → R B} {a r : D} (h : F [.t a] [] = .ok (.t r) []) (s : Store) : callS F [.t a] s = .ok (.t r) s := by
  simp [callS, List.filterMap_cons, B.ref?, getAll, renum, h, B.give, putAll]
theorem cs_t2 {F : List B → Store → R B} {a b r : D} (h : F [.t a, .t b] [] = .ok (.t r) []) (s : Store) : callS F [.t a, .t b] s = .ok (.t r) s := by
  simp [callS, List.filterMap_cons, B.ref?, getAll, renum, h, B.give, putAll]
theorem cs_t3 {F : List B → Store → R B} {a b c r : D} (h : F [.t a, .t b, .t c] [] = .ok (.t r) []) (s : Store) : callS F [.t a, .t b, .t c] s = .ok (.t r) s := by
  simp [callS, List.filterMap_cons, B.ref?, getAll, renum, h, B.give, putAll]
theorem cs_r1 {F : List B → Store → R B} {r : D} {o o' : O} (h : F [.r 0] [o] = .ok (.t r) [o']) : callS F [.r 0] [o] = .ok (.t r) [o'] := by
  simp [callS, List.filterMap_cons, B.ref?, getAll, renum, h, B.give, putAll]
theorem cs_r2 {F : List B → Store → R B} {a r : D} {o o' : O} (h : F [.r 0, .t a] [o] = .ok (.t r) [o']) : callS F [.r 0, .t a] [o] = .ok (.t r) [o'] := by
  simp [callS, List.filterMap_cons, B.ref?, getAll, renum, h, B.give, putAll]
theorem mulOk_of {i j : Int} (hi : i.natAbs < 2 ^ 4000) (hj : j.natAbs < 2 ^ 4000) : mulOk i j = true := by
  unfold mulOk
  have h1 := log_small (k := 4000) (by decide) hi
  have h2 := log_small (k := 4000) (by decide) hj
  exact decide_eq_true (by omega)
/-- a comprehension whose turns answer by g -/
theorem compL_map {f : D → Store → R (Option D)} {g : D → Option D} : ∀ (xs acc : List D) (s : Store), (∀ x ∈ xs, f x s = .ok (g x) s) → acc.length + xs.length ≤ line → compL f xs acc s = .ok (acc ++ xs.filterMap g) s
  | [], acc, s, _, _ => by simp [compL]
  | x :: xs, acc, s, h, hl => by
    rw [compL, h x List.mem_cons_self]
    rw [List.length_cons] at hl
    cases q : g x with
    | none =>
      simp only
      rw [compL_map xs acc s (fun y hy => h y (List.mem_cons_of_mem _ hy)) (by omega)]
      simp [List.filterMap_cons, q]
    | some y =>
      simp only
      rw [if_pos (by omega), compL_map xs (acc ++ [y]) s (fun y hy => h y (List.mem_cons_of_mem _ hy)) (by simp; omega)]
      simp [List.filterMap_cons, q]
theorem ev_comp_of {G : Gx} {kind : Nat} {its : List CE} {tg : Tg} {own : List Nat} {conds : List CE} {elt : CE} {ρ : Zw.Env} {s s1 : Store} {bs : List B} {xs : List D} {g : D → Option D} (h1 : evl G its ρ s = .ok bs s1) (h2 : (seens bs).bind (walk kind) = some xs)
    (h3 : ∀ x ∈ xs, turnC G tg own conds elt ρ x s1 = .ok (g x) s1) (hl : xs.length ≤ line) : ev G (.comp kind its tg own conds elt) ρ s = .ok (.own (.lst (xs.filterMap g))) s1 := by
  have h4 := compL_map (f := turnC G tg own conds elt ρ) xs [] s1 h3 (by simpa using hl)
  have e : ev G (.comp kind its tg own conds elt) ρ s = (evl G its ρ s).bind fun bs s => match (seens bs).bind (walk kind) with
      | none => .bad
      | some xs => (compL (turnC G tg own conds elt ρ) xs [] s).bind fun ys s => .ok (.own (.lst ys)) s := by rw [ev]; rfl
  rw [e, h1]
  show (match (seens bs).bind (walk kind) with
      | none => R.bad
      | some xs => (compL (turnC G tg own conds elt ρ) xs [] s1).bind fun ys s => R.ok (B.own (.lst ys)) s) = _
  rw [h2]
  show (compL (turnC G tg own conds elt ρ) xs [] s1).bind (fun ys s => R.ok (B.own (.lst ys)) s) = _
  rw [h4]
  rfl
theorem exec_for_of {G : Gx} {cs : Bool} {kind : Nat} {its : List CE} {tg : Tg} {body : List CS} {ρ : Zw.Env} {s s1 : Store} {bs : List B} {xs : List D} (h1 : evl G its ρ s = .ok bs s1) (h2 : (frzs bs).bind (walk kind) = some xs) :
    Zw.exec G (.for_ cs kind its tg body) ρ s = forL cs s1.length (fun x ρ s => match bindT tg x ρ with
          | none => .bad
          | some ρ => Zw.execs G body ρ s) xs ρ s1 := by
  rw [Zw.exec, h1]
  show (match (frzs bs).bind (walk kind) with
      | none => RS.bad
      | some xs => forL cs s1.length (fun x ρ s => match bindT tg x ρ with
          | none => .bad
          | some ρ => Zw.execs G body ρ s) xs ρ s1) = _
  rw [h2]
theorem eqOk_int (i j : Int) : eqOk (.int i) (.int j) = true := rfl
theorem eqOk_non : eqOk .non .non = true := rfl
theorem len2 {α : Type} (r : List α) : ((r.length : Int) + 1 + 1 + 1 == 2) = false := by simp; omega
theorem len3 {α : Type} (r : List α) : ((r.length : Int) + 1 + 1 + 1 + 1 == 3) = false := by simp; omega
theorem eqB_pt (a b c d : Int) : eqB (.tup [.int a, .int b]) (.tup [.int c, .int d]) = (a == c && b == d) := by simp [eqB, D.py, D.pys, PyData.eqv, PyData.eqvAll]
theorem eqOk_pt (a b c d : Int) : eqOk (.tup [.int a, .int b]) (.tup [.int c, .int d]) = true := rfl
theorem eqB_nil (xs : List D) : eqB (.lst xs) (.lst []) = xs.isEmpty := by cases xs <;> simp [eqB, D.py, D.pys, PyData.eqv, PyData.eqvAll]
theorem eqOk_nil {xs : List D} (h : D.Fines xs) (hd : D.deps xs ≤ 63) : eqOk (.lst xs) (.lst []) = true := eqOk_of (by rw [D.Fine]; exact h) (by rw [D.Fine, D.Fines]; trivial) (by rw [D.dep]; omega) (by decide)
theorem cls (x : D) : (∃ i, x = .int i) ∨ (isTy .int x = false ∨ (isTy .int x = true ∧ isTy .bool x = true)) := by
  cases x with
  | int i => exact .inl ⟨i, rfl⟩
  | bl b => exact .inr (.inr ⟨rfl, rfl⟩)
  | _ => exact .inr (.inl rfl)
theorem ty_int (i : Int) : isTy .int (.int i) = true := rfl
theorem ty_bool (i : Int) : isTy .bool (.int i) = false := rfl
theorem ty_tup (xs : List D) : isTy .tuple (.tup xs) = true := rfl
theorem isTup (d : D) : (∃ xs, d = .tup xs) ∨ isTy .tuple d = false := by
  cases d with
  | tup xs => exact .inl ⟨xs, rfl⟩
  | _ => exact .inr rfl
theorem dep_int (i : Int) : (D.int i).dep = 0 := rfl
end Zw
namespace Law
open Zw PySem
def c_GREAT : D := (.int 1000000000000000000000000000000000000000000000000000000000000)
def c_MOST_POINTS : D := (.int 24)
def f_is_whole : Fn := ⟨1, 1, [(.ret (.andv [(.b1 (.isi .int) (.var 0)), (.notv (.b1 (.isi .bool) (.var 0))), (.chain .lt .lt (.neg (.gc 0)) (.var 0) (.gc 0))]))]⟩
def f_lowest : Fn := ⟨2, 4, [(.asg 2 (.ife (.cmp .lt (.var 1) (.cst (.int 0))) (.neg (.cst (.int 1))) (.cst (.int 1)))), (.asg 3 (.b2 .gcd (.var 0) (.var 1))), (.ret (.tup [(false, (.bin .fdiv (.bin .mul (.var 2) (.var 0)) (.var 3))), (false, (.bin .fdiv (.bin .mul (.var 2) (.var 1)) (.var 3)))]))]⟩
def f_turn_in : Fn := ⟨2, 2, [(.ret (.bin .sub (.bin .mul (.ix (.var 0) (.cst (.int 0))) (.ix (.var 1) (.cst (.int 1)))) (.bin .mul (.ix (.var 0) (.cst (.int 1))) (.ix (.var 1) (.cst (.int 0))))))]⟩
def f_along_in : Fn := ⟨2, 2, [(.ret (.bin .add (.bin .mul (.ix (.var 0) (.cst (.int 0))) (.ix (.var 1) (.cst (.int 0)))) (.bin .mul (.ix (.var 0) (.cst (.int 1))) (.ix (.var 1) (.cst (.int 1))))))]⟩
def f_is_point_of : Fn := ⟨1, 2, [(.ret (.andv [(.b1 (.isi .tuple) (.var 0)), (.cmp .eq (.b1 .len (.var 0)) (.cst (.int 2))), (.b1 .all (.comp 0 [(.var 0)] (.nm 1) [1] [] (.call 0 [(.var 1)])))]))]⟩
def f_is_direction_of : Fn := ⟨1, 1, [(.ret (.andv [(.call 4 [(.var 0)]), (.cmp .ne (.var 0) (.tup [(false, (.cst (.int 0))), (false, (.cst (.int 0)))]))]))]⟩
def f_is_integer_of : Fn := ⟨1, 1, [(.ret (.andv [(.b1 (.isi .int) (.var 0)), (.notv (.b1 (.isi .bool) (.var 0)))]))]⟩
def f_is_fraction_of : Fn := ⟨1, 2, [(.ite (.orv [(.notv (.b1 (.isi .tuple) (.var 0))), (.cmp .ne (.b1 .len (.var 0)) (.cst (.int 2))), (.notv (.b1 .all (.comp 0 [(.var 0)] (.nm 1) [1] [] (.call 6 [(.var 1)]))))]) [(.ret (.cst (.bl false)))] []), (.ret (.andv [(.cmp .gt (.ix (.var 0) (.cst (.int 1))) (.cst (.int 0))), (.cmp .eq (.b2 .gcd (.ix (.var 0) (.cst (.int 0))) (.ix (.var 0) (.cst (.int 1)))) (.cst (.int 1)))]))]⟩
def f_is_wedge_of : Fn := ⟨1, 2, [(.ite (.orv [(.notv (.b1 (.isi .tuple) (.var 0))), (.cmp .ne (.b1 .len (.var 0)) (.cst (.int 3))), (.notv (.call 4 [(.ix (.var 0) (.cst (.int 0)))]))]) [(.ret (.cst (.bl false)))] []), (.ite (.orv [(.notv (.call 5 [(.ix (.var 0) (.cst (.int 1)))])), (.notv (.call 5 [(.ix (.var 0) (.cst (.int 2)))]))]) [(.ret (.cst (.bl false)))] []), (.asg 1 (.call 2 [(.ix (.var 0) (.cst (.int 1))), (.ix (.var 0) (.cst (.int 2)))])), (.frz 1), (.ret (.orv [(.cmp .gt (.var 1) (.cst (.int 0))), (.andv [(.cmp .eq (.var 1) (.cst (.int 0))), (.cmp .gt (.call 3 [(.ix (.var 0) (.cst (.int 1))), (.ix (.var 0) (.cst (.int 2)))]) (.cst (.int 0)))])]))]⟩
def f_is_half_of : Fn := ⟨1, 2, [(.ite (.orv [(.notv (.b1 (.isi .tuple) (.var 0))), (.cmp .ne (.b1 .len (.var 0)) (.cst (.int 3))), (.notv (.b1 .all (.comp 0 [(.var 0)] (.nm 1) [1] [] (.call 6 [(.var 1)]))))]) [(.ret (.cst (.bl false)))] []), (.ret (.cmp .ne (.sl (.var 0) none (some (.cst (.int 2)))) (.tup [(false, (.cst (.int 0))), (false, (.cst (.int 0)))])))]⟩
def f_halves_in : Fn := ⟨1, 8, [(.asgT (.tup [(.tup [(.nm 1), (.nm 2)]), (.tup [(.nm 3), (.nm 4)]), (.tup [(.nm 5), (.nm 6)])]) (.var 0)), (.asg 7 (.tup [(false, (.tup [(false, (.var 4)), (false, (.neg (.var 3))), (false, (.bin .sub (.bin .mul (.var 4) (.var 1)) (.bin .mul (.var 3) (.var 2))))])), (false, (.tup [(false, (.neg (.var 6))), (false, (.var 5)), (false, (.bin .sub (.bin .mul (.var 5) (.var 2)) (.bin .mul (.var 6) (.var 1))))]))])), (.ret (.ife (.cmp .gt (.call 2 [(.tup [(false, (.var 3)), (false, (.var 4))]), (.tup [(false, (.var 5)), (false, (.var 6))])]) (.cst (.int 0))) (.var 7) (.tup [(true, (.var 7)), (false, (.tup [(false, (.neg (.var 3))), (false, (.neg (.var 4))), (false, (.bin .sub (.bin .mul (.neg (.var 3)) (.var 1)) (.bin .mul (.var 4) (.var 2))))]))])))]⟩
def f_is_below : Fn := ⟨2, 9, [(.asgT (.tup [(.nm 2), (.nm 3), (.nm 4)]) (.var 0)), (.asgT (.tup [(.tup [(.nm 5), (.nm 6)]), (.tup [(.nm 7), (.nm 8)])]) (.var 1)), (.ret (.cmp .le (.bin .add (.bin .mul (.bin .mul (.var 2) (.var 5)) (.var 8)) (.bin .mul (.bin .mul (.var 3) (.var 7)) (.var 6))) (.bin .mul (.bin .mul (.var 4) (.var 6)) (.var 8))))]⟩
def f_is_held : Fn := ⟨2, 3, [(.ret (.b1 .all (.comp 0 [(.call 10 [(.var 0)])] (.nm 2) [2] [] (.call 11 [(.var 2), (.var 1)]))))]⟩
def f_crossing_in : Fn := ⟨2, 9, [(.asgT (.tup [(.tup [(.nm 2), (.nm 3), (.nm 4)]), (.tup [(.nm 5), (.nm 6), (.nm 7)])]) (.tup [(false, (.var 0)), (false, (.var 1))])), (.asg 8 (.bin .sub (.bin .mul (.var 2) (.var 6)) (.bin .mul (.var 3) (.var 5)))), (.frz 8), (.ret (.ife (.cmp .eq (.var 8) (.cst (.int 0))) (.cst .non) (.tup [(false, (.call 1 [(.bin .sub (.bin .mul (.var 4) (.var 6)) (.bin .mul (.var 3) (.var 7))), (.var 8)])), (false, (.call 1 [(.bin .sub (.bin .mul (.var 2) (.var 7)) (.bin .mul (.var 4) (.var 5))), (.var 8)]))])))]⟩
def f_require_direction : Fn := ⟨1, 1, [(.ite (.notv (.call 5 [(.var 0)])) [(.raise 1)] [])]⟩
def f_require_wedge : Fn := ⟨1, 1, [(.ite (.notv (.call 8 [(.var 0)])) [(.raise 1)] [])]⟩
def f_turn : Fn := ⟨2, 2, [(.expr (.call 14 [(.var 0)])), (.expr (.call 14 [(.var 1)])), (.ret (.call 2 [(.var 0), (.var 1)]))]⟩
def f_is_wedge : Fn := ⟨1, 1, [(.ret (.call 8 [(.var 0)]))]⟩
def f_is_place : Fn := ⟨1, 2, [(.ret (.andv [(.b1 (.isi .tuple) (.var 0)), (.cmp .eq (.b1 .len (.var 0)) (.cst (.int 2))), (.b1 .all (.comp 0 [(.var 0)] (.nm 1) [1] [] (.call 7 [(.var 1)])))]))]⟩
def f_half_planes : Fn := ⟨1, 1, [(.expr (.call 15 [(.var 0)])), (.ret (.call 10 [(.var 0)]))]⟩
def f_holds : Fn := ⟨2, 2, [(.expr (.call 15 [(.var 0)])), (.ite (.notv (.call 18 [(.var 1)])) [(.raise 1)] []), (.ret (.call 12 [(.var 0), (.var 1)]))]⟩
def f_place_of : Fn := ⟨1, 1, [(.ite (.notv (.call 4 [(.var 0)])) [(.raise 1)] []), (.ret (.tup [(false, (.tup [(false, (.ix (.var 0) (.cst (.int 0)))), (false, (.cst (.int 1)))])), (false, (.tup [(false, (.ix (.var 0) (.cst (.int 1)))), (false, (.cst (.int 1)))]))]))]⟩
def f_crossing : Fn := ⟨2, 3, [(.for_ false 0 [(.tup [(false, (.var 0)), (false, (.var 1))])] (.nm 2) [(.ite (.notv (.call 9 [(.var 2)])) [(.raise 1)] [])]), (.ret (.call 13 [(.var 0), (.var 1)]))]⟩
def f_cells_in : Fn := ⟨2, 6, [(.ite (.orv [(.notv (.b1 (.isi .tuple) (.var 0))), (.cmp .gt (.b1 .len (.var 0)) (.gc 1)), (.notv (.b1 .all (.comp 0 [(.var 0)] (.nm 2) [2] [] (.call 4 [(.var 2)]))))]) [(.raise 1)] []), (.expr (.call 15 [(.var 1)])), (.ret (.b1 .tuple (.comp 3 [(.var 0)] (.tup [(.nm 3), (.tup [(.nm 4), (.nm 5)])]) [3, 4, 5] [(.call 12 [(.var 1), (.tup [(false, (.tup [(false, (.var 4)), (false, (.cst (.int 1)))])), (false, (.tup [(false, (.var 5)), (false, (.cst (.int 1)))]))])])] (.var 3))))]⟩
def f__law_bag : Fn := ⟨2, 5, [(.asg 2 (.ife (.cmp .lt (.var 1) (.b1 .len (.var 0))) (.b1 .int (.ix (.var 0) (.var 1))) (.bin .add (.bin .mul (.cst (.int 89)) (.var 1)) (.cst (.int 41))))), (.asg 3 (.bin .mod (.b2 .max2 (.cst (.int 0)) (.bin .sub (.b1 .abs (.var 2)) (.bin .pow (.cst (.int 10)) (.cst (.int 18))))) (.bin .mul (.bin .pow (.cst (.int 10)) (.cst (.int 60))) (.bin .pow (.cst (.int 10)) (.cst (.int 60)))))), (.asg 4 (.bin .add (.bin .add (.bin .add (.bin .mul (.bin .mod (.b1 .int (.b1 .abs (.var 2))) (.bin .add (.bin .pow (.cst (.int 10)) (.cst (.int 12))) (.cst (.int 39)))) (.cst (.int 10007))) (.bin .mul (.cst (.int 509)) (.var 1))) (.bin .mul (.cst (.int 17)) (.b1 .int (.cmp .lt (.var 2) (.cst (.int 0)))))) (.cst (.int 1)))), (.ret (.lst [(false, (.var 3)), (false, (.bin .mod (.b1 .int (.var 4)) (.bin .sub (.bin .pow (.cst (.int 2)) (.cst (.int 61))) (.cst (.int 1)))))]))]⟩
def f__law_draw : Fn := ⟨2, 3, [(.ite (.cmp .gt (.ix (.var 0) (.cst (.int 0))) (.cst (.int 0))) [(.asg 2 (.bin .mod (.b1 .int (.ix (.var 0) (.cst (.int 0)))) (.var 1))), (.setIx 0 (.cst (.int 0)) (.bin .fdiv (.ix (.var 0) (.cst (.int 0))) (.var 1))), (.ret (.var 2))] []), (.setIx 0 (.cst (.int 1)) (.bin .mod (.b1 .int (.bin .add (.bin .mul (.ix (.var 0) (.cst (.int 1))) (.cst (.int 6364136223))) (.cst (.int 1442695041)))) (.bin .sub (.bin .pow (.cst (.int 2)) (.cst (.int 61))) (.cst (.int 1))))), (.ret (.bin .mod (.b1 .int (.bin .fdiv (.ix (.var 0) (.cst (.int 1))) (.cst (.int 65537)))) (.var 1)))]⟩
def f__law_one_of : Fn := ⟨2, 2, [(.ret (.ix (.var 1) (.call 25 [(.var 0), (.b1 .len (.var 1))])))]⟩
def f__law_right : Fn := ⟨1, 12, [(.asg 1 (.call 26 [(.var 0), (.lst [(false, (.cst .non)), (false, (.tup [(false, (.cst (.int 0))), (false, (.cst (.int 0)))])), (false, (.tup [(false, (.cst (.int 1)))])), (false, (.tup [(false, (.cst (.int 1))), (false, (.cst (.int 2))), (false, (.cst (.int 3)))])), (false, (.lst [(false, (.cst (.int 1))), (false, (.cst (.int 2)))])), (false, (.tup [(false, (.cst (.bl true))), (false, (.cst (.int 1)))])), (false, (.tup [(false, (.cst (.str (Str.ofString "1")))), (false, (.cst (.int 0)))])), (false, (.tup [(false, (.cst .non)), (false, (.cst (.int 0)))])), (false, (.cst (.int 0))), (false, (.cst (.str (Str.ofString "12")))), (false, .dic), (false, (.tup [(false, (.bin .pow (.cst (.int 10)) (.cst (.int 60)))), (false, (.cst (.int 0)))])), (false, (.tup [(false, (.cst (.int 0))), (false, (.bin .sub (.cst (.int 0)) (.bin .pow (.cst (.int 10)) (.cst (.int 60)))))]))])])), (.frz 1), (.asg 2 (.lst [(false, (.cst .non)), (false, (.tup [])), (false, (.tup [(false, (.tup [(false, (.cst (.int 0))), (false, (.cst (.int 0)))])), (false, (.tup [(false, (.cst (.int 1))), (false, (.cst (.int 0)))]))])), (false, (.tup [(false, (.tup [(false, (.cst (.int 0))), (false, (.cst (.int 0)))])), (false, (.tup [(false, (.cst (.int 1))), (false, (.cst (.int 0)))])), (false, (.tup [(false, (.neg (.cst (.int 1)))), (false, (.cst (.int 0)))]))])), (false, (.tup [(false, (.tup [(false, (.cst (.int 0))), (false, (.cst (.int 0)))])), (false, (.tup [(false, (.cst (.int 0))), (false, (.cst (.int 1)))])), (false, (.tup [(false, (.cst (.int 1))), (false, (.cst (.int 0)))]))])), (false, (.lst [(false, (.tup [(false, (.cst (.int 0))), (false, (.cst (.int 0)))])), (false, (.tup [(false, (.cst (.int 1))), (false, (.cst (.int 0)))])), (false, (.tup [(false, (.cst (.int 0))), (false, (.cst (.int 1)))]))])), (false, (.cst (.int 0))), (false, (.cst (.str (Str.ofString "wedge"))))])), (.frz 2), (.asg 3 (.call 26 [(.var 0), (.bin .add (.var 2) (.lst [(false, (.tup [(false, (.tup [(false, (.cst (.int 0))), (false, (.cst (.int 0)))])), (false, (.tup [(false, (.cst (.int 0))), (false, (.cst (.int 0)))])), (false, (.tup [(false, (.cst (.int 0))), (false, (.cst (.int 1)))]))])), (false, (.tup [(false, (.tup [(false, (.cst (.int 0))), (false, (.cst (.int 0)))])), (false, (.tup [(false, (.cst (.int 1))), (false, (.cst (.int 0)))])), (false, (.tup [(false, (.cst (.int 0))), (false, (.bin .pow (.cst (.int 10)) (.cst (.int 60))))]))]))]))])), (.frz 3), (.asg 4 (.lst [(false, (.cst .non)), (false, (.tup [(false, (.cst (.int 1))), (false, (.cst (.int 1)))])), (false, (.tup [(false, (.tup [(false, (.cst (.int 1))), (false, (.cst (.int 2)))]))])), (false, (.tup [(false, (.tup [(false, (.cst (.int 2))), (false, (.cst (.int 4)))])), (false, (.tup [(false, (.cst (.int 0))), (false, (.cst (.int 1)))]))])), (false, (.tup [(false, (.tup [(false, (.cst (.int 1))), (false, (.cst (.int 0)))])), (false, (.tup [(false, (.cst (.int 0))), (false, (.cst (.int 1)))]))])), (false, (.tup [(false, (.tup [(false, (.cst (.int 1))), (false, (.neg (.cst (.int 1))))])), (false, (.tup [(false, (.cst (.int 0))), (false, (.cst (.int 1)))]))])), (false, (.lst [(false, (.tup [(false, (.cst (.int 1))), (false, (.cst (.int 1)))])), (false, (.tup [(false, (.cst (.int 1))), (false, (.cst (.int 1)))]))])), (false, (.tup [(false, (.tup [(false, (.cst (.bl true))), (false, (.cst (.int 1)))])), (false, (.tup [(false, (.cst (.int 1))), (false, (.cst (.int 1)))]))])), (false, (.cst (.int 0)))])), (.frz 4), (.asg 5 (.call 26 [(.var 0), (.bin .add (.var 4) (.lst [(false, (.tup [(false, (.tup [(false, (.cst (.int 1))), (false, (.cst (.int 2)))])), (false, (.tup [(false, (.cst (.int 6))), (false, (.cst (.int 4)))]))]))]))])), (.frz 5), (.asg 6 (.call 26 [(.var 0), (.lst [(false, (.cst .non)), (false, (.tup [(false, (.cst (.int 0))), (false, (.cst (.int 0))), (false, (.cst (.int 1)))])), (false, (.tup [(false, (.cst (.int 1))), (false, (.cst (.int 2)))])), (false, (.tup [(false, (.cst (.int 1))), (false, (.cst (.int 2))), (false, (.cst (.int 3))), (false, (.cst (.int 4)))])), (false, (.lst [(false, (.cst (.int 1))), (false, (.cst (.int 0))), (false, (.cst (.int 1)))])), (false, (.tup [(false, (.cst (.bl true))), (false, (.cst (.int 0))), (false, (.cst (.int 1)))])), (false, (.tup [(false, (.cst (.int 1))), (false, (.cst (.int 0))), (false, (.cst (.str (Str.ofString "1"))))])), (false, (.cst (.int 0))), (false, (.tup [(false, (.cst (.int 1))), (false, (.cst (.int 0))), (false, (.cst .non))]))])])), (.frz 6), (.asg 7 (.call 26 [(.var 0), (.lst [(false, (.cst .non)), (false, (.lst [(false, (.tup [(false, (.cst (.int 0))), (false, (.cst (.int 0)))]))])), (false, (.tup [(false, (.tup [(false, (.cst (.int 0))), (false, (.cst (.int 0)))])), (false, (.cst .non))])), (false, (.tup [(false, (.tup [(false, (.cst (.int 0)))]))])), (false, (.bin .mul (.tup [(false, (.tup [(false, (.cst (.int 0))), (false, (.cst (.int 0)))]))]) (.cst (.int 25)))), (false, (.tup [(false, (.cst (.int 0))), (false, (.cst (.int 0)))])), (false, (.tup [(false, (.tup [(false, (.cst (.bl true))), (false, (.cst (.int 0)))]))])), (false, (.cst (.int 0)))])])), (.frz 7), (.asg 8 (.call 26 [(.var 0), (.lst [(false, (.cst .non)), (false, (.tup [(false, (.cst (.int 1)))])), (false, (.lst [(false, (.cst (.int 1))), (false, (.cst (.int 2)))])), (false, (.tup [(false, (.cst (.int 1))), (false, (.cst (.int 2))), (false, (.cst (.int 3)))])), (false, (.tup [(false, (.cst (.bl true))), (false, (.cst (.int 1)))])), (false, (.cst (.str (Str.ofString "12")))), (false, (.cst (.int 0))), (false, (.tup [(false, (.bin .pow (.cst (.int 10)) (.cst (.int 60)))), (false, (.cst (.int 0)))]))])])), (.frz 8), (.asgT (.tup [(.nm 9), (.nm 10)]) (.tup [(false, (.tup [(false, (.tup [(false, (.cst (.int 0))), (false, (.cst (.int 0)))])), (false, (.tup [(false, (.cst (.int 1))), (false, (.cst (.int 0)))])), (false, (.tup [(false, (.cst (.int 0))), (false, (.cst (.int 1)))]))])), (false, (.tup [(false, (.tup [(false, (.cst (.int 1))), (false, (.cst (.int 2)))])), (false, (.tup [(false, (.cst (.int 0))), (false, (.cst (.int 1)))]))]))])), (.asg 11 (.lst [(false, (.tell 0 (.call 16 [(.var 1), (.tup [(false, (.cst (.int 1))), (false, (.cst (.int 0)))])])))])), (.app 11 (.tell 0 (.call 20 [(.var 9), (.var 5)]))), (.app 11 (.tell 0 (.call 16 [(.tup [(false, (.cst (.int 1))), (false, (.cst (.int 0)))]), (.var 1)]))), (.app 11 (.tell 0 (.call 19 [(.var 3)]))), (.app 11 (.tell 0 (.call 20 [(.var 3), (.var 10)]))), (.app 11 (.tell 0 (.call 21 [(.var 8)]))), (.app 11 (.tell 0 (.call 22 [(.var 6), (.tup [(false, (.cst (.int 1))), (false, (.cst (.int 0))), (false, (.cst (.int 0)))])]))), (.app 11 (.tell 0 (.call 22 [(.tup [(false, (.cst (.int 1))), (false, (.cst (.int 0))), (false, (.cst (.int 0)))]), (.var 6)]))), (.app 11 (.tell 0 (.call 23 [(.var 7), (.var 9)]))), (.app 11 (.tell 0 (.call 23 [(.tup [(false, (.tup [(false, (.cst (.int 0))), (false, (.cst (.int 0)))]))]), (.var 3)]))), (.ret (.andv [(.cmp .eq (.var 11) (.bin .mul (.lst [(false, (.cst (.bl true)))]) (.cst (.int 10)))), (.cmp .eq (.b1 .repr (.lst [(false, (.call 17 [(.var 3)])), (false, (.call 18 [(.var 5)]))])) (.b1 .repr (.lst [(false, (.cst (.bl false))), (false, (.cst (.bl false)))])))]))]⟩
def f_law : Fn := ⟨1, 6, [(.for_ true 1 [(.b2 .max2 (.cst (.int 1)) (.b2 .min2 (.cst (.int 4)) (.b1 .len (.var 0))))] (.nm 1) [(.asg 2 (.call 24 [(.var 0), (.var 1)])), (.mv 2), (.ite (.cmp .ne (.comp 1 [(.cst (.int 6))] (.nm 3) [3] [(.notv (.call 27 [(.var 2)]))] (.cst (.int 1))) (.lst [])) [(.ret (.cst (.bl false)))] [])]), (.asg 4 (.bin .sub (.bin .pow (.cst (.int 10)) (.cst (.int 60))) (.cst (.int 1)))), (.asg 5 (.lst [(false, (.call 16 [(.tup [(false, (.var 4)), (false, (.bin .sub (.cst (.int 0)) (.var 4)))]), (.tup [(false, (.var 4)), (false, (.var 4))])])), (false, (.b1 .len (.call 23 [(.bin .mul (.tup [(false, (.tup [(false, (.cst (.int 0))), (false, (.cst (.int 0)))]))]) (.cst (.int 24))), (.tup [(false, (.tup [(false, (.cst (.int 0))), (false, (.cst (.int 0)))])), (false, (.tup [(false, (.cst (.int 1))), (false, (.cst (.int 0)))])), (false, (.tup [(false, (.cst (.int 0))), (false, (.cst (.int 1)))]))])])))])), (.app 5 (.call 20 [(.tup [(false, (.tup [(false, (.var 4)), (false, (.var 4))])), (false, (.tup [(false, (.cst (.int 1))), (false, (.cst (.int 0)))])), (false, (.tup [(false, (.cst (.int 0))), (false, (.cst (.int 1)))]))]), (.tup [(false, (.tup [(false, (.var 4)), (false, (.cst (.int 1)))])), (false, (.tup [(false, (.var 4)), (false, (.cst (.int 1)))]))])])), (.asg 5 (.bin .add (.var 5) (.lst [(false, (.call 18 [(.tup [(false, (.tup [(false, (.bin .mul (.cst (.int 10)) (.var 4))), (false, (.cst (.int 1)))])), (false, (.tup [(false, (.cst (.int 1))), (false, (.bin .mul (.cst (.int 10)) (.var 4)))]))])])), (false, (.call 22 [(.tup [(false, (.bin .mul (.cst (.int 10)) (.var 4))), (false, (.cst (.int 0))), (false, (.bin .mul (.cst (.int 20)) (.var 4)))]), (.tup [(false, (.cst (.int 0))), (false, (.cst (.int 1))), (false, (.bin .mul (.cst (.int 100)) (.var 4)))])]))]))), (.ret (.cmp .eq (.b1 .repr (.var 5)) (.b1 .repr (.lst [(false, (.bin .mul (.bin .mul (.cst (.int 2)) (.var 4)) (.var 4))), (false, (.cst (.int 24))), (false, (.cst (.bl true))), (false, (.cst (.bl true))), (false, (.tup [(false, (.tup [(false, (.cst (.int 2))), (false, (.cst (.int 1)))])), (false, (.tup [(false, (.bin .mul (.cst (.int 100)) (.var 4))), (false, (.cst (.int 1)))]))]))]))))]⟩
def t__law_is_refused : Tl := ⟨false, [(1, (.bl true))], (.bl false)⟩
def sb : Nat → Nat → Bool
  | 0, 0 => true
  | 1, 1 => true
  | 1, 0 => true
  | _, _ => false
def md : Md := ⟨[c_GREAT, c_MOST_POINTS], [f_is_whole, f_lowest, f_turn_in, f_along_in, f_is_point_of, f_is_direction_of, f_is_integer_of, f_is_fraction_of, f_is_wedge_of, f_is_half_of, f_halves_in, f_is_below, f_is_held, f_crossing_in, f_require_direction, f_require_wedge, f_turn, f_is_wedge, f_is_place, f_half_planes, f_holds, f_place_of, f_crossing, f_cells_in, f__law_bag, f__law_draw, f__law_one_of, f__law_right, f_law], sb, [t__law_is_refused]⟩
end Law
namespace Law
open Zw PySem
def gx (n : Nat) : Gx := md.gx n
def lowg (n : Nat) : Gx := ⟨md.call n, fun g => md.gcs[g]?, fun _ _ _ => .bad, sb, fun _ => none⟩
theorem gx_fn (n i : Nat) : (gx n).fn i = md.call n i := rfl
theorem lg_fn (n i : Nat) : (lowg n).fn i = md.call n i := rfl
theorem gx_low (n : Nat) : (gx (n + 2)).low = lowg n := rfl
theorem gx_sub (n : Nat) : (gx n).sub = sb := rfl
theorem gt__law_is_refused (n : Nat) : (gx (n + 2)).tl 0 = some t__law_is_refused := by
  show (if 2 ≤ n + 2 then fun t => md.tls[t]? else fun _ => none) 0 = _
  rw [if_pos (Nat.le_add_left 2 n)]
  rfl
theorem g_GREAT (n : Nat) : (gx n).gc 0 = some c_GREAT := rfl
theorem lg_GREAT (n : Nat) : (lowg n).gc 0 = some c_GREAT := rfl
theorem g_MOST_POINTS (n : Nat) : (gx n).gc 1 = some c_MOST_POINTS := rfl
theorem lg_MOST_POINTS (n : Nat) : (lowg n).gc 1 = some c_MOST_POINTS := rfl
theorem u_is_whole (n : Nat) (args : List B) (s : Store) : md.call (n + 1) 0 args s = runF (gx n) f_is_whole args s := rfl
theorem u_lowest (n : Nat) (args : List B) (s : Store) : md.call (n + 1) 1 args s = runF (gx n) f_lowest args s := rfl
theorem u_turn_in (n : Nat) (args : List B) (s : Store) : md.call (n + 1) 2 args s = runF (gx n) f_turn_in args s := rfl
theorem u_along_in (n : Nat) (args : List B) (s : Store) : md.call (n + 1) 3 args s = runF (gx n) f_along_in args s := rfl
theorem u_is_point_of (n : Nat) (args : List B) (s : Store) : md.call (n + 1) 4 args s = runF (gx n) f_is_point_of args s := rfl
theorem u_is_direction_of (n : Nat) (args : List B) (s : Store) : md.call (n + 1) 5 args s = runF (gx n) f_is_direction_of args s := rfl
theorem u_is_integer_of (n : Nat) (args : List B) (s : Store) : md.call (n + 1) 6 args s = runF (gx n) f_is_integer_of args s := rfl
theorem u_is_fraction_of (n : Nat) (args : List B) (s : Store) : md.call (n + 1) 7 args s = runF (gx n) f_is_fraction_of args s := rfl
theorem u_is_wedge_of (n : Nat) (args : List B) (s : Store) : md.call (n + 1) 8 args s = runF (gx n) f_is_wedge_of args s := rfl
theorem u_is_half_of (n : Nat) (args : List B) (s : Store) : md.call (n + 1) 9 args s = runF (gx n) f_is_half_of args s := rfl
theorem u_halves_in (n : Nat) (args : List B) (s : Store) : md.call (n + 1) 10 args s = runF (gx n) f_halves_in args s := rfl
theorem u_is_below (n : Nat) (args : List B) (s : Store) : md.call (n + 1) 11 args s = runF (gx n) f_is_below args s := rfl
theorem u_is_held (n : Nat) (args : List B) (s : Store) : md.call (n + 1) 12 args s = runF (gx n) f_is_held args s := rfl
theorem u_crossing_in (n : Nat) (args : List B) (s : Store) : md.call (n + 1) 13 args s = runF (gx n) f_crossing_in args s := rfl
theorem u_require_direction (n : Nat) (args : List B) (s : Store) : md.call (n + 1) 14 args s = runF (gx n) f_require_direction args s := rfl
theorem u_require_wedge (n : Nat) (args : List B) (s : Store) : md.call (n + 1) 15 args s = runF (gx n) f_require_wedge args s := rfl
theorem u_turn (n : Nat) (args : List B) (s : Store) : md.call (n + 1) 16 args s = runF (gx n) f_turn args s := rfl
theorem u_is_wedge (n : Nat) (args : List B) (s : Store) : md.call (n + 1) 17 args s = runF (gx n) f_is_wedge args s := rfl
theorem u_is_place (n : Nat) (args : List B) (s : Store) : md.call (n + 1) 18 args s = runF (gx n) f_is_place args s := rfl
theorem u_half_planes (n : Nat) (args : List B) (s : Store) : md.call (n + 1) 19 args s = runF (gx n) f_half_planes args s := rfl
theorem u_holds (n : Nat) (args : List B) (s : Store) : md.call (n + 1) 20 args s = runF (gx n) f_holds args s := rfl
theorem u_place_of (n : Nat) (args : List B) (s : Store) : md.call (n + 1) 21 args s = runF (gx n) f_place_of args s := rfl
theorem u_crossing (n : Nat) (args : List B) (s : Store) : md.call (n + 1) 22 args s = runF (gx n) f_crossing args s := rfl
theorem u_cells_in (n : Nat) (args : List B) (s : Store) : md.call (n + 1) 23 args s = runF (gx n) f_cells_in args s := rfl
theorem u__law_bag (n : Nat) (args : List B) (s : Store) : md.call (n + 1) 24 args s = runF (gx n) f__law_bag args s := rfl
theorem u__law_draw (n : Nat) (args : List B) (s : Store) : md.call (n + 1) 25 args s = runF (gx n) f__law_draw args s := rfl
theorem u__law_one_of (n : Nat) (args : List B) (s : Store) : md.call (n + 1) 26 args s = runF (gx n) f__law_one_of args s := rfl
theorem u__law_right (n : Nat) (args : List B) (s : Store) : md.call (n + 1) 27 args s = runF (gx n) f__law_right args s := rfl
theorem u_law (n : Nat) (args : List B) (s : Store) : md.call (n + 1) 28 args s = runF (gx n) f_law args s := rfl
end Law
set_option linter.all false
set_option maxRecDepth 100000
set_option maxHeartbeats 4000000
set_option exponentiation.threshold 5000
namespace Law
open Zw PySem
abbrev Pt (a b : Int) : D := .tup [.int a, .int b]
end Law
set_option linter.all false
set_option maxRecDepth 100000
set_option maxHeartbeats 4000000
set_option exponentiation.threshold 5000
namespace Law
open Zw PySem
/-! ### drawing -/
abbrev bag (g b : Int) : O := .lst [.int g, .int b]
def Gd (g b : Int) : Prop := 0 ≤ g ∧ 0 ≤ b ∧ b < 2 ^ 61
theorem draw_ok (n : Nat) {g b m : Int} (h : Gd g b) (hm : 0 < m) (hm2 : m < 10 ^ 60) : ∃ v g' b', md.call (n + 1) 25 [.r 0, .t (.int m)] [bag g b] = .ok (.t (.int v)) [bag g' b'] ∧ 0 ≤ v ∧ v < m ∧ Gd g' b' := by
  obtain ⟨h1, h2, h3⟩ := h
  have hl : m.natAbs.log2 < 9000 := Nat.lt_trans (log_small (k := 200) (by decide) (show m.natAbs < 2 ^ 200 by omega)) (by decide)
  rw [u__law_draw]
  by_cases hg : 0 < g
  · refine ⟨g % m, g / m, b, ?_, Int.emod_nonneg _ (by omega), Int.emod_lt_of_pos _ hm, Int.ediv_nonneg h1 (by omega), h2, h3⟩
    simp [gx_fn, runF, enter, B.par, Zw.execs, Zw.exec, Zw.ev, evl, evs, evg, evO, evAnd, evOr, evConds, evT, R.bind, R.to, R.of, readV, truB, B.look, B.peek, B.frz, B.give, B.still, B.bl?, D.tru, op2, opAdd, opSub, opMul, opMod, opFdiv, opPow, cmp2, cmLt, cmI, cmN, cmIn, D.isNon, bi1, bi2, biLen, biAbs, biInt, biAll, biTuple, biList, biSum, bi2I, ty_int, ty_bool, ty_tup, blsOf, Zw.still, ixD, ixN, itemsD, wipe, bindT, bindTs, seens, B.seen, Zw.walk, frzs, setAll, gives, eqOk_int, eqB_int, compL, len2, len3, eqOk_pt, eqB_pt, lstAt, lstPut, slice, cut, sIx, Zw.line, tellR, tlFind, enumD, zipD, zipS, f__law_draw, hg, hm, hl]
  · have mm : mulOk b 6364136223 = true := mulOk_of (Nat.lt_of_lt_of_le (show b.natAbs < 2 ^ 62 by omega) (by decide)) (by decide)
    have hp : powOk 2 61 = true := by decide
    have l2 : (65537 : Nat).log2 < 9000 := by decide
    refine ⟨((b * 6364136223 + 1442695041) % (2 ^ 61 - 1)) / 65537 % m, g, (b * 6364136223 + 1442695041) % (2 ^ 61 - 1), ?_, Int.emod_nonneg _ (by omega), Int.emod_lt_of_pos _ hm, h1, Int.emod_nonneg _ (by decide), Int.lt_trans (Int.emod_lt_of_pos _ (by decide)) (by decide)⟩
    simp [gx_fn, runF, enter, B.par, Zw.execs, Zw.exec, Zw.ev, evl, evs, evg, evO, evAnd, evOr, evConds, evT, R.bind, R.to, R.of, readV, truB, B.look, B.peek, B.frz, B.give, B.still, B.bl?, D.tru, op2, opAdd, opSub, opMul, opMod, opFdiv, opPow, cmp2, cmLt, cmI, cmN, cmIn, D.isNon, bi1, bi2, biLen, biAbs, biInt, biAll, biTuple, biList, biSum, bi2I, ty_int, ty_bool, ty_tup, blsOf, Zw.still, ixD, ixN, itemsD, wipe, bindT, bindTs, seens, B.seen, Zw.walk, frzs, setAll, gives, eqOk_int, eqB_int, compL, len2, len3, eqOk_pt, eqB_pt, lstAt, lstPut, slice, cut, sIx, Zw.line, tellR, tlFind, enumD, zipD, zipS, f__law_draw, hg, hm, mm, hp, l2]
theorem forL_inv {n : Nat} {f : D → Zw.Env → Store → RS} (P : Zw.Env → Store → Prop) (h : ∀ x ρ s, P ρ s → ∃ ρ' s', f x ρ s = .nx ρ' s' ∧ P ρ' s') : ∀ (xs : List D) (ρ : Zw.Env) (s : Store), P ρ s → ∃ ρ' s', forL false n f xs ρ s = .nx ρ' s' ∧ P ρ' s'
  | [], ρ, s, p => ⟨ρ, s, rfl, p⟩
  | x :: xs, ρ, s, p => by
    obtain ⟨ρ1, s1, e1, p1⟩ := h x ρ s p
    obtain ⟨ρ2, s2, e2, p2⟩ := forL_inv P h xs ρ1 s1 p1
    refine ⟨ρ2, s2, ?_, p2⟩
    rw [forL, e1]
    exact e2
theorem one_of_ok (n : Nat) {g b : Int} {xs : List D} (h : Gd g b) (hx : xs ≠ []) (hl : xs.length < 1000) : ∃ v g' b', md.call (n + 2) 26 [.r 0, .t (.lst xs)] [bag g b] = .ok (.t v) [bag g' b'] ∧ v ∈ xs ∧ Gd g' b' := by
  have h0 : 0 < xs.length := List.length_pos_iff.mpr hx
  obtain ⟨v, g', b', e, v0, v1, gd⟩ := draw_ok n (m := (xs.length : Int)) h (by omega) (by omega)
  have e := cs_r2 e
  have hv : v.toNat < xs.length := by omega
  refine ⟨xs[v.toNat], g', b', ?_, List.getElem_mem _, gd⟩
  rw [u__law_one_of]
  simp [gx_fn, runF, enter, B.par, Zw.execs, Zw.exec, Zw.ev, evl, evs, evg, evO, evAnd, evOr, evConds, evT, R.bind, R.to, R.of, readV, truB, B.look, B.peek, B.frz, B.give, B.still, B.bl?, D.tru, op2, opAdd, opSub, opMul, opMod, opFdiv, opPow, cmp2, cmLt, cmI, cmN, cmIn, D.isNon, bi1, bi2, biLen, biAbs, biInt, biAll, biTuple, biList, biSum, bi2I, ty_int, ty_bool, ty_tup, blsOf, Zw.still, ixD, ixN, itemsD, wipe, bindT, bindTs, seens, B.seen, Zw.walk, frzs, setAll, gives, eqOk_int, eqB_int, compL, len2, len3, eqOk_pt, eqB_pt, lstAt, lstPut, slice, cut, sIx, Zw.line, tellR, tlFind, enumD, zipD, zipS, f__law_one_of, e, v0, v1, hv]
end Law
set_option linter.all false
set_option maxRecDepth 100000
set_option maxHeartbeats 4000000
set_option exponentiation.threshold 5000
namespace Law
open Zw PySem
/-- a comprehension by a judge -/
theorem map_all (b : D → Bool) : ∀ xs : List D, xs.filterMap (fun x => some (D.bl (b x))) = xs.map fun x => D.bl (b x)
  | [] => rfl
  | x :: xs => by rw [List.filterMap_cons, map_all b xs]; rfl
theorem bls_fine (b : D → Bool) : ∀ xs : List D, D.Fines (xs.map fun x => D.bl (b x)) ∧ D.deps (xs.map fun x => D.bl (b x)) = 0 ∧ D.wts (xs.map fun x => D.bl (b x)) = 7 * xs.length
  | [] => ⟨trivial, rfl, rfl⟩
  | x :: xs => by
    obtain ⟨h1, h2, h3⟩ := bls_fine b xs
    simp only [List.map_cons, D.Fines, D.deps, D.wts, D.Fine, D.dep, D.wt, h2, h3, List.length_cons]
    exact ⟨⟨trivial, h1⟩, rfl, by omega⟩
theorem bls_repr (b : D → Bool) {xs : List D} (h : xs.length ≤ 1000) : reprOk (.lst (xs.map fun x => D.bl (b x))) = true := by
  obtain ⟨h1, h2, h3⟩ := bls_fine b xs
  refine reprOk_of (by rw [D.Fine]; exact h1) ?_ ?_
  · rw [D.wt, h3]; unfold Zw.line; omega
  · rw [D.dep, h2]; decide
theorem str_ok (s : Str) : eqOk (.str s) (.str s) = true := rfl
theorem execs_split (G : Gx) (k : Nat) : ∀ (cs : List CS) (ρ : Zw.Env) (s : Store), Zw.execs G cs ρ s = match Zw.execs G (cs.take k) ρ s with
    | .nx ρ' s' => Zw.execs G (cs.drop k) ρ' s'
    | r => r := by
  induction k with
  | zero => intro cs ρ s; simp [Zw.execs]
  | succ k ih =>
    intro cs ρ s
    cases cs with
    | nil => simp [Zw.execs]
    | cons c cs =>
      rw [List.take_succ_cons, List.drop_succ_cons, Zw.execs, Zw.execs]
      cases Zw.exec G c ρ s <;> simp
      exact ih cs _ _
theorem execs_nx {G : Gx} (k : Nat) {cs : List CS} {ρ ρ' : Zw.Env} {s s' : Store} (h : Zw.execs G (cs.take k) ρ s = .nx ρ' s') : Zw.execs G cs ρ s = Zw.execs G (cs.drop k) ρ' s' := by
  rw [execs_split G k, h]
theorem wFine (i : Int) (h : i.natAbs < 10 ^ 110) : i.natAbs < 2 ^ 1900 := Nat.lt_of_lt_of_le h (by decide)
end Law
set_option linter.all false
set_option maxRecDepth 100000
set_option maxHeartbeats 4000000
set_option exponentiation.threshold 5000
namespace Law
open Zw PySem
theorem bag_ok (n : Nat) {ns : List Int} {at_ : Int} (h0 : 0 ≤ at_) (h4 : at_ < 4) : ∃ g b, md.call (n + 1) 24 [.sc (.lst (ns.map D.int)), .t (.int at_)] [] = .ok (.own (.lst [.int g, .int b])) [] ∧ Gd g b := by
  rw [u__law_bag]
  have p1 : powOk 10 18 = true := by decide
  have p2 : powOk 10 60 = true := by decide
  have p3 : powOk 10 12 = true := by decide
  have p4 : powOk 2 61 = true := by decide
  have m1 : mulOk 1000000000000000000000000000000000000000000000000000000000000 1000000000000000000000000000000000000000000000000000000000000 = true := by decide +kernel
  have m3 : mulOk 509 at_ = true := mulOk_of (by decide) (Nat.lt_of_lt_of_le (show at_.natAbs < 2 ^ 60 by omega) (by decide))
  have m4 : ∀ b : Bool, mulOk 17 (if b = true then 1 else 0) = true := fun b => by cases b <;> decide +kernel
  have m5 : mulOk 89 at_ = true := mulOk_of (by decide) (Nat.lt_of_lt_of_le (show at_.natAbs < 2 ^ 60 by omega) (by decide))
  have m2 : ∀ c : Int, mulOk ((if c < 0 then -c else c) % 1000000000039) 10007 = true := fun c => mulOk_of (Nat.lt_of_lt_of_le (show ((if c < 0 then -c else c) % 1000000000039).natAbs < 2 ^ 60 by
    have h1 := Int.emod_nonneg (if c < 0 then -c else c) (show (1000000000039 : Int) ≠ 0 by decide)
    have h2 := Int.emod_lt_of_pos (if c < 0 then -c else c) (show (0 : Int) < 1000000000039 by decide)
    generalize (if c < 0 then -c else c) % 1000000000039 = z at *
    omega) (by decide)) (by decide)
  have fin : ∀ c : Int, ∃ g b, runF (gx n) ⟨3, 5, f__law_bag.body.drop 1⟩ [.sc (.lst (ns.map D.int)), .t (.int at_), .t (.int c)] [] = .ok (.own (.lst [.int g, .int b])) [] ∧ Gd g b := by
    intro c
    have m2 := m2 c
    have q1 : mulOk 17 1 = true := by decide +kernel
    have q0 : mulOk 17 0 = true := by decide +kernel
    by_cases hc : c < 0
    · rw [if_pos hc] at m2
      refine ⟨(if 0 < -c - 10 ^ 18 then -c - 10 ^ 18 else 0) % (10 ^ 60 * 10 ^ 60), ((-c % (10 ^ 12 + 39)) * 10007 + 509 * at_ + 17 * 1 + 1) % (2 ^ 61 - 1), ?_, Int.emod_nonneg _ (by decide), Int.emod_nonneg _ (by decide), Int.lt_trans (Int.emod_lt_of_pos _ (by decide)) (by decide)⟩
      simp only [f__law_bag, List.drop]
      simp [gx_fn, runF, enter, B.par, Zw.execs, Zw.exec, Zw.ev, evl, evs, evg, evO, evAnd, evOr, evConds, evT, R.bind, R.to, R.of, readV, truB, B.look, B.peek, B.frz, B.give, B.still, B.bl?, D.tru, op2, opAdd, opSub, opMul, opMod, opFdiv, opPow, cmp2, cmLt, cmI, cmN, cmIn, D.isNon, bi1, bi2, biLen, biAbs, biInt, biAll, biTuple, biList, biSum, bi2I, ty_int, ty_bool, ty_tup, blsOf, Zw.still, ixD, ixN, itemsD, wipe, bindT, bindTs, seens, B.seen, Zw.walk, frzs, setAll, gives, eqOk_int, eqB_int, compL, len2, len3, eqOk_pt, eqB_pt, lstAt, lstPut, slice, cut, sIx, Zw.line, tellR, tlFind, enumD, zipD, zipS, p1, p2, p3, p4, m1, m2, m3, q1, hc]
    · rw [if_neg hc] at m2
      refine ⟨(if 0 < c - 10 ^ 18 then c - 10 ^ 18 else 0) % (10 ^ 60 * 10 ^ 60), ((c % (10 ^ 12 + 39)) * 10007 + 509 * at_ + 17 * 0 + 1) % (2 ^ 61 - 1), ?_, Int.emod_nonneg _ (by decide), Int.emod_nonneg _ (by decide), Int.lt_trans (Int.emod_lt_of_pos _ (by decide)) (by decide)⟩
      simp only [f__law_bag, List.drop]
      simp [gx_fn, runF, enter, B.par, Zw.execs, Zw.exec, Zw.ev, evl, evs, evg, evO, evAnd, evOr, evConds, evT, R.bind, R.to, R.of, readV, truB, B.look, B.peek, B.frz, B.give, B.still, B.bl?, D.tru, op2, opAdd, opSub, opMul, opMod, opFdiv, opPow, cmp2, cmLt, cmI, cmN, cmIn, D.isNon, bi1, bi2, biLen, biAbs, biInt, biAll, biTuple, biList, biSum, bi2I, ty_int, ty_bool, ty_tup, blsOf, Zw.still, ixD, ixN, itemsD, wipe, bindT, bindTs, seens, B.seen, Zw.walk, frzs, setAll, gives, eqOk_int, eqB_int, compL, len2, len3, eqOk_pt, eqB_pt, lstAt, lstPut, slice, cut, sIx, Zw.line, tellR, tlFind, enumD, zipD, zipS, p1, p2, p3, p4, m1, m2, m3, q0, hc]
  have cell : ∃ c, Zw.execs (gx n) (f__law_bag.body.take 1) (enter f__law_bag [.sc (.lst (ns.map D.int)), .t (.int at_)]) [] = .nx [some (.sc (.lst (ns.map D.int))), some (.t (.int at_)), some (.t (.int c)), none, none] [] := by
    by_cases hl : at_ < ns.length
    · have hx : at_.toNat < ns.length := by omega
      refine ⟨ns[at_.toNat], ?_⟩
      simp only [f__law_bag, List.take]
      simp [gx_fn, runF, enter, B.par, Zw.execs, Zw.exec, Zw.ev, evl, evs, evg, evO, evAnd, evOr, evConds, evT, R.bind, R.to, R.of, readV, truB, B.look, B.peek, B.frz, B.give, B.still, B.bl?, D.tru, op2, opAdd, opSub, opMul, opMod, opFdiv, opPow, cmp2, cmLt, cmI, cmN, cmIn, D.isNon, bi1, bi2, biLen, biAbs, biInt, biAll, biTuple, biList, biSum, bi2I, ty_int, ty_bool, ty_tup, blsOf, Zw.still, ixD, ixN, itemsD, wipe, bindT, bindTs, seens, B.seen, Zw.walk, frzs, setAll, gives, eqOk_int, eqB_int, compL, len2, len3, eqOk_pt, eqB_pt, lstAt, lstPut, slice, cut, sIx, Zw.line, tellR, tlFind, enumD, zipD, zipS, h0, hl, hx]
    · refine ⟨89 * at_ + 41, ?_⟩
      simp only [f__law_bag, List.take]
      simp [gx_fn, runF, enter, B.par, Zw.execs, Zw.exec, Zw.ev, evl, evs, evg, evO, evAnd, evOr, evConds, evT, R.bind, R.to, R.of, readV, truB, B.look, B.peek, B.frz, B.give, B.still, B.bl?, D.tru, op2, opAdd, opSub, opMul, opMod, opFdiv, opPow, cmp2, cmLt, cmI, cmN, cmIn, D.isNon, bi1, bi2, biLen, biAbs, biInt, biAll, biTuple, biList, biSum, bi2I, ty_int, ty_bool, ty_tup, blsOf, Zw.still, ixD, ixN, itemsD, wipe, bindT, bindTs, seens, B.seen, Zw.walk, frzs, setAll, gives, eqOk_int, eqB_int, compL, len2, len3, eqOk_pt, eqB_pt, lstAt, lstPut, slice, cut, sIx, Zw.line, tellR, tlFind, enumD, zipD, zipS, h0, hl, m5]
  obtain ⟨c, hc⟩ := cell
  obtain ⟨g, b, e, gd⟩ := fin c
  refine ⟨g, b, ?_, gd⟩
  unfold runF at e ⊢
  rw [if_pos (show [B.sc (.lst (ns.map D.int)), .t (.int at_), .t (.int c)].length = 3 from rfl)] at e
  rw [if_pos (show [B.sc (.lst (ns.map D.int)), .t (.int at_)].length = f__law_bag.params from rfl), execs_nx 1 hc]
  exact e
end Law
set_option linter.all false
set_option maxRecDepth 100000
set_option maxHeartbeats 4000000
set_option exponentiation.threshold 5000
namespace Law
open Zw PySem
theorem forLc_inv {n : Nat} {f : D → Zw.Env → Store → RS} (P : Zw.Env → Store → Prop) : ∀ (xs : List D), (∀ x ∈ xs, ∀ ρ s, P ρ s → ∃ ρ' s', f x ρ s = .nx ρ' s' ∧ P (cutE n ρ') (s'.take n)) → ∀ (ρ : Zw.Env) (s : Store), P ρ s → ∃ ρ' s', forL true n f xs ρ s = .nx ρ' s' ∧ P ρ' s'
  | [], _, ρ, s, p => ⟨ρ, s, rfl, p⟩
  | x :: xs, h, ρ, s, p => by
    obtain ⟨ρ1, s1, e1, p1⟩ := h x List.mem_cons_self ρ s p
    obtain ⟨ρ2, s2, e2, p2⟩ := forLc_inv P xs (fun y hy => h y (List.mem_cons_of_mem _ hy)) _ _ p1
    refine ⟨ρ2, s2, ?_, p2⟩
    rw [forL, e1]
    exact e2
theorem compL_inv {f : D → Store → R (Option D)} (P : Store → Prop) (h : ∀ x s, P s → ∃ s', f x s = .ok none s' ∧ P s') : ∀ (xs acc : List D) (s : Store), P s → ∃ s', compL f xs acc s = .ok acc s' ∧ P s'
  | [], acc, s, p => ⟨s, rfl, p⟩
  | x :: xs, acc, s, p => by
    obtain ⟨s1, e1, p1⟩ := h x s p
    obtain ⟨s2, e2, p2⟩ := compL_inv P h xs acc s1 p1
    refine ⟨s2, ?_, p2⟩
    rw [compL, e1]
    exact e2
theorem ev_comp_st {G : Gx} {kind : Nat} {its : List CE} {tg : Tg} {own : List Nat} {conds : List CE} {elt : CE} {ρ : Zw.Env} {s s1 s2 : Store} {bs : List B} {xs ys : List D} (h1 : evl G its ρ s = .ok bs s1) (h2 : (seens bs).bind (walk kind) = some xs)
    (h3 : compL (turnC G tg own conds elt ρ) xs [] s1 = .ok ys s2) : ev G (.comp kind its tg own conds elt) ρ s = .ok (.own (.lst ys)) s2 := by
  have e : ev G (.comp kind its tg own conds elt) ρ s = (evl G its ρ s).bind fun bs s => match (seens bs).bind (walk kind) with
      | none => .bad
      | some xs => (compL (turnC G tg own conds elt ρ) xs [] s).bind fun ys s => .ok (.own (.lst ys)) s := by rw [ev]; rfl
  rw [e, h1]
  show (match (seens bs).bind (walk kind) with
      | none => R.bad
      | some xs => (compL (turnC G tg own conds elt ρ) xs [] s1).bind fun ys s => R.ok (B.own (.lst ys)) s) = _
  rw [h2]
  show (compL (turnC G tg own conds elt ρ) xs [] s1).bind (fun ys s => R.ok (B.own (.lst ys)) s) = _
  rw [h3]
  rfl
theorem cs_st {F : List B → Store → R B} {a b r : D} (h : F [.sc a, .t b] [] = .ok (.own r) []) (s : Store) : callS F [.sc a, .t b] s = .ok (.own r) s := by
  simp [callS, List.filterMap_cons, B.ref?, getAll, renum, h, B.give, putAll]
end Law
set_option linter.all false
set_option maxRecDepth 100000
set_option maxHeartbeats 4000000
set_option exponentiation.threshold 5000
namespace Law
open Zw PySem
theorem cs_x1 {F : List B → Store → R B} {a : D} {c : Nat} {p : List D} (h : F [.t a] [] = .ex c p []) (s : Store) : callS F [.t a] s = .ex c p s := by
  simp [callS, List.filterMap_cons, B.ref?, getAll, renum, h, putAll]
theorem cs_x2 {F : List B → Store → R B} {a b : D} {c : Nat} {p : List D} (h : F [.t a, .t b] [] = .ex c p []) (s : Store) : callS F [.t a, .t b] s = .ex c p s := by
  simp [callS, List.filterMap_cons, B.ref?, getAll, renum, h, putAll]
def exB : R B → Bool
  | .ex 1 [] [] => true
  | _ => false
theorem ex_of {r : R B} (h : exB r = true) : r = .ex 1 [] [] := by
  unfold exB at h
  split at h
  · rfl
  · cases h
def noB : R B → Bool
  | .ok (.t (.bl false)) [] => true
  | _ => false
theorem no_of {r : R B} (h : noB r = true) : r = .ok (.t (.bl false)) [] := by
  unfold noB at h
  split at h
  · rfl
  · cases h
abbrev T3 (a b c : D) : D := .tup [a, b, c]
abbrev I3 (a b c : Int) : D := .tup [.int a, .int b, .int c]
def ways : List D := [.non, Pt 0 0, .tup [.int 1], I3 1 2 3, .lst [.int 1, .int 2], .tup [.bl true, .int 1], .tup [.str (Str.ofString "1"), .int 0], .tup [.non, .int 0], .int 0, .str (Str.ofString "12"), .dic, Pt 1000000000000000000000000000000000000000000000000000000000000 0, Pt 0 (-1000000000000000000000000000000000000000000000000000000000000)]
def wedgs0 : List D := [.non, .tup [], .tup [Pt 0 0, Pt 1 0], T3 (Pt 0 0) (Pt 1 0) (Pt (-1) 0), T3 (Pt 0 0) (Pt 0 1) (Pt 1 0), .lst [Pt 0 0, Pt 1 0, Pt 0 1], .int 0, .str (Str.ofString "wedge")]
def wedgs : List D := wedgs0 ++ [T3 (Pt 0 0) (Pt 0 0) (Pt 0 1), T3 (Pt 0 0) (Pt 1 0) (Pt 0 1000000000000000000000000000000000000000000000000000000000000)]
def plcs0 : List D := [.non, Pt 1 1, .tup [Pt 1 2], .tup [Pt 2 4, Pt 0 1], .tup [Pt 1 0, Pt 0 1], .tup [Pt 1 (-1), Pt 0 1], .lst [Pt 1 1, Pt 1 1], .tup [.tup [.bl true, .int 1], Pt 1 1], .int 0]
def plcs : List D := plcs0 ++ [.tup [Pt 1 2, Pt 6 4]]
def plns : List D := [.non, I3 0 0 1, Pt 1 2, .tup [.int 1, .int 2, .int 3, .int 4], .lst [.int 1, .int 0, .int 1], T3 (.bl true) (.int 0) (.int 1), T3 (.int 1) (.int 0) (.str (Str.ofString "1")), .int 0, T3 (.int 1) (.int 0) .non]
def ptss : List D := [.non, .lst [Pt 0 0], .tup [Pt 0 0, .non], .tup [.tup [.int 0]], .tup (List.replicate 25 (Pt 0 0)), Pt 0 0, .tup [.tup [.bl true, .int 0]], .int 0]
def pts : List D := [.non, .tup [.int 1], .lst [.int 1, .int 2], I3 1 2 3, .tup [.bl true, .int 1], .str (Str.ofString "12"), .int 0, Pt 1000000000000000000000000000000000000000000000000000000000000 0]
abbrev fineD : D := T3 (Pt 0 0) (Pt 1 0) (Pt 0 1)
abbrev rightD : D := .tup [Pt 1 2, Pt 0 1]
theorem r1 : (ways.all fun x => exB (md.call 57 16 [.t x, .t (Pt 1 0)] [])) = true := by kernel_rfl
theorem r2 : (plcs.all fun x => exB (md.call 57 20 [.t fineD, .t x] [])) = true := by kernel_rfl
theorem r3 : (ways.all fun x => exB (md.call 57 16 [.t (Pt 1 0), .t x] [])) = true := by kernel_rfl
theorem r4 : (wedgs.all fun x => exB (md.call 57 19 [.t x] [])) = true := by kernel_rfl
theorem r5 : (wedgs.all fun x => exB (md.call 57 20 [.t x, .t rightD] [])) = true := by kernel_rfl
theorem r6 : (pts.all fun x => exB (md.call 57 21 [.t x] [])) = true := by kernel_rfl
theorem r7 : (plns.all fun x => exB (md.call 57 22 [.t x, .t (I3 1 0 0)] [])) = true := by kernel_rfl
theorem r8 : (plns.all fun x => exB (md.call 57 22 [.t (I3 1 0 0), .t x] [])) = true := by kernel_rfl
theorem r9 : (ptss.all fun x => exB (md.call 57 23 [.t x, .t fineD] [])) = true := by kernel_rfl
theorem r10 : (wedgs.all fun x => exB (md.call 57 23 [.t (.tup [Pt 0 0]), .t x] [])) = true := by kernel_rfl
theorem r11 : (wedgs.all fun x => noB (md.call 59 17 [.t x] [])) = true := by kernel_rfl
theorem r12 : (plcs.all fun x => noB (md.call 59 18 [.t x] [])) = true := by kernel_rfl
end Law
set_option linter.all false
set_option maxRecDepth 100000
set_option maxHeartbeats 4000000
set_option exponentiation.threshold 5000
namespace Law
open Zw PySem
def argE : CS → CE
  | .asg _ (.call _ [_, e]) => e
  | .asg _ e => e
  | _ => .dic
abbrev bE (k : Nat) : CE := argE (f__law_right.body.getD k .pass)
theorem draw_st (i : Nat) (E : CE) (xs : List D) {ρ : Zw.Env} {g b : Int} (gd : Gd g b) (h0 : ρ[0]? = some (some (.r 0))) (hi : i < ρ.length) (he : ∀ s, ev (gx 59) E ρ s = .ok (.own (.lst xs)) s) (hx : xs ≠ []) (hl : xs.length < 1000) :
    ∃ v g' b', Zw.execs (gx 59) [.asg i (.call 26 [(.var 0), E]), .frz i] ρ [bag g b] = .nx (ρ.set i (some (.t v))) [bag g' b'] ∧ v ∈ xs ∧ Gd g' b' := by
  obtain ⟨v, g1, b1, e, hv, gd1⟩ := one_of_ok 57 gd hx hl
  have e : callS ((gx 59).fn 26) [.r 0, .t (.lst xs)] [bag g b] = .ok (.t v) [bag g1 b1] := cs_r2 e
  refine ⟨v, g1, b1, ?_, hv, gd1⟩
  simp [Zw.execs, Zw.exec, ev, evl, he, h0, readV, R.bind, R.to, R.of, B.still, B.give, e, hi]
abbrev rr (o1 o2 o3 o4 o5 o6 o7 o8 : Option B) : Zw.Env := [some (.r 0), o1, o2, o3, o4, o5, o6, o7, o8, none, none, none]
theorem lst_st (i : Nat) (E : CE) (xs : List D) {ρ : Zw.Env} {s : Store} (hi : i < ρ.length) (he : ∀ s, ev (gx 59) E ρ s = .ok (.own (.lst xs)) s) : Zw.execs (gx 59) [.asg i E, .frz i] ρ s = .nx (ρ.set i (some (.t (.lst xs)))) s := by
  simp [Zw.execs, Zw.exec, he, R.to, B.still, B.give, hi]
theorem right_ok {g b : Int} (h : Gd g b) : ∃ g' b', md.call 60 27 [.r 0] [bag g b] = .ok (.t (.bl true)) [bag g' b'] ∧ Gd g' b' := by
  obtain ⟨way, g1, b1, e1, m1, gd1⟩ := draw_st 1 (bE 0) ways (ρ := rr none none none none none none none none) h rfl (by simp) (fun s => by kernel_rfl) (by simp [ways]) (by simp [ways])
  have e2 := lst_st 2 (bE 2) wedgs0 (ρ := rr (some (.t way)) none none none none none none none) (s := [bag g1 b1]) (by simp) (fun s => by kernel_rfl)
  obtain ⟨wedge, g3, b3, e3, m3, gd3⟩ := draw_st 3 (bE 4) wedgs (ρ := rr (some (.t way)) (some (.t (.lst wedgs0))) none none none none none none) gd1 rfl (by simp) (fun s => by kernel_rfl) (by simp [wedgs]) (by simp [wedgs, wedgs0])
  have e4 := lst_st 4 (bE 6) plcs0 (ρ := rr (some (.t way)) (some (.t (.lst wedgs0))) (some (.t wedge)) none none none none none) (s := [bag g3 b3]) (by simp) (fun s => by kernel_rfl)
  obtain ⟨place, g5, b5, e5, m5, gd5⟩ := draw_st 5 (bE 8) plcs (ρ := rr (some (.t way)) (some (.t (.lst wedgs0))) (some (.t wedge)) (some (.t (.lst plcs0))) none none none none) gd3 rfl (by simp) (fun s => by kernel_rfl) (by simp [plcs]) (by simp [plcs, plcs0])
  obtain ⟨plane, g6, b6, e6, m6, gd6⟩ := draw_st 6 (bE 10) plns (ρ := rr (some (.t way)) (some (.t (.lst wedgs0))) (some (.t wedge)) (some (.t (.lst plcs0))) (some (.t place)) none none none) gd5 rfl (by simp) (fun s => by kernel_rfl) (by simp [plns]) (by simp [plns])
  obtain ⟨points, g7, b7, e7, m7, gd7⟩ := draw_st 7 (bE 12) ptss (ρ := rr (some (.t way)) (some (.t (.lst wedgs0))) (some (.t wedge)) (some (.t (.lst plcs0))) (some (.t place)) (some (.t plane)) none none) gd6 rfl (by simp) (fun s => by kernel_rfl) (by simp [ptss]) (by simp [ptss])
  obtain ⟨point, g8, b8, e8, m8, gd8⟩ := draw_st 8 (bE 14) pts (ρ := rr (some (.t way)) (some (.t (.lst wedgs0))) (some (.t wedge)) (some (.t (.lst plcs0))) (some (.t place)) (some (.t plane)) (some (.t points)) none) gd7 rfl (by simp) (fun s => by kernel_rfl) (by simp [pts]) (by simp [pts])
  have w1 := cs_x2 (ex_of (List.all_eq_true.mp r1 way m1))
  have w2 := cs_x2 (ex_of (List.all_eq_true.mp r2 place m5))
  have w3 := cs_x2 (ex_of (List.all_eq_true.mp r3 way m1))
  have w4 := cs_x1 (ex_of (List.all_eq_true.mp r4 wedge m3))
  have w5 := cs_x2 (ex_of (List.all_eq_true.mp r5 wedge m3))
  have w6 := cs_x1 (ex_of (List.all_eq_true.mp r6 point m8))
  have w7 := cs_x2 (ex_of (List.all_eq_true.mp r7 plane m6))
  have w8 := cs_x2 (ex_of (List.all_eq_true.mp r8 plane m6))
  have w9 := cs_x2 (ex_of (List.all_eq_true.mp r9 points m7))
  have w10 := cs_x2 (ex_of (List.all_eq_true.mp r10 wedge m3))
  have w11 := cs_t1 (no_of (List.all_eq_true.mp r11 wedge m3))
  have w12 := cs_t1 (no_of (List.all_eq_true.mp r12 place m5))
  refine ⟨g8, b8, ?_, gd8⟩
  rw [u__law_right]
  have fin : Zw.execs (gx 59) (f__law_right.body.drop 16) (rr (some (.t way)) (some (.t (.lst wedgs0))) (some (.t wedge)) (some (.t (.lst plcs0))) (some (.t place)) (some (.t plane)) (some (.t points)) (some (.t point))) [bag g8 b8] = .rt (.t (.bl true)) [bag g8 b8] := by
    have hl : (gx 59).low = lowg 57 := rfl
    have ht : (gx 59).tl 0 = some t__law_is_refused := rfl
    have hs : (gx 59).sub 1 1 = true := rfl
    have q1 : eqOk (.lst [.bl true, .bl true, .bl true, .bl true, .bl true, .bl true, .bl true, .bl true, .bl true, .bl true]) (.lst [.bl true, .bl true, .bl true, .bl true, .bl true, .bl true, .bl true, .bl true, .bl true, .bl true]) = true := by kernel_rfl
    have q2 : eqB (.lst [.bl true, .bl true, .bl true, .bl true, .bl true, .bl true, .bl true, .bl true, .bl true, .bl true]) (.lst [.bl true, .bl true, .bl true, .bl true, .bl true, .bl true, .bl true, .bl true, .bl true, .bl true]) = true := by kernel_rfl
    have q3 : reprOk (.lst [.bl false, .bl false]) = true := by kernel_rfl
    clear e1 e2 e3 e4 e5 e6 e7 e8 m1 m3 m5 m6 m7 m8 gd1 gd3 gd5 gd6 gd7 gd8 h
    generalize wedgs0 = l1
    generalize plcs0 = l2
    simp only [f__law_right, List.drop]
    unfold rr
    simp [gx_fn, runF, enter, B.par, Zw.execs, Zw.exec, Zw.ev, evl, evs, evg, evO, evAnd, evOr, evConds, evT, R.bind, R.to, R.of, readV, truB, B.look, B.peek, B.frz, B.give, B.still, B.bl?, D.tru, op2, opAdd, opSub, opMul, opMod, opFdiv, opPow, cmp2, cmLt, cmI, cmN, cmIn, D.isNon, bi1, bi2, biLen, biAbs, biInt, biAll, biTuple, biList, biSum, bi2I, ty_int, ty_bool, ty_tup, blsOf, Zw.still, ixD, ixN, itemsD, wipe, bindT, bindTs, seens, B.seen, Zw.walk, frzs, setAll, gives, eqOk_int, eqB_int, compL, len2, len3, eqOk_pt, eqB_pt, lstAt, lstPut, slice, cut, sIx, Zw.line, tellR, tlFind, enumD, zipD, zipS, hl, ht, hs, t__law_is_refused, lg_fn, w1, w2, w3, w4, w5, w6, w7, w8, w9, w10, w11, w12, q1, q2, q3, str_ok, eqB_str]
  have tot : Zw.execs (gx 59) f__law_right.body (enter f__law_right [.r 0]) [bag g b] = .rt (.t (.bl true)) [bag g8 b8] := by
    refine (execs_nx 2 e1).trans ?_
    refine (execs_nx 2 e2).trans ?_
    refine (execs_nx 2 e3).trans ?_
    refine (execs_nx 2 e4).trans ?_
    refine (execs_nx 2 e5).trans ?_
    refine (execs_nx 2 e6).trans ?_
    refine (execs_nx 2 e7).trans ?_
    exact (execs_nx 2 e8).trans fin
  unfold runF
  rw [if_pos (show [B.r 0].length = f__law_right.params from rfl), tot]
  rfl
end Law
set_option linter.all false
set_option maxRecDepth 100000
set_option maxHeartbeats 4000000
set_option exponentiation.threshold 5000
namespace Law
open Zw PySem
abbrev cR : CE := .comp 1 [(.cst (.int 6))] (.nm 3) [3] [(.notv (.call 27 [(.var 2)]))] (.cst (.int 1))
abbrev rL (L : D) (o1 o2 : Option B) : Zw.Env := [some (.sc L), o1, o2, none, none, none]
theorem rights_ok (L x : D) {g b : Int} (h : Gd g b) : ∃ g' b', ev (gx 60) cR (rL L (some (.t x)) (some (.r 0))) [bag g b] = .ok (.own (.lst [])) [bag g' b'] ∧ Gd g' b' := by
  obtain ⟨s', e, g', b', hs, gd⟩ := compL_inv (f := turnC (gx 60) (.nm 3) [3] [(.notv (.call 27 [(.var 2)]))] (.cst (.int 1)) (rL L (some (.t x)) (some (.r 0)))) (fun s => ∃ g b, s = [bag g b] ∧ Gd g b) (fun z s hz => by
    obtain ⟨g, b, rfl, gd⟩ := hz
    obtain ⟨g', b', e, gd'⟩ := right_ok gd
    have e := cs_r1 e
    exact ⟨[bag g' b'], by simp [gx_fn, runF, enter, B.par, Zw.execs, Zw.exec, Zw.ev, evl, evs, evg, evO, evAnd, evOr, evConds, evT, R.bind, R.to, R.of, readV, truB, B.look, B.peek, B.frz, B.give, B.still, B.bl?, D.tru, op2, opAdd, opSub, opMul, opMod, opFdiv, opPow, cmp2, cmLt, cmI, cmN, cmIn, D.isNon, bi1, bi2, biLen, biAbs, biInt, biAll, biTuple, biList, biSum, bi2I, ty_int, ty_bool, ty_tup, blsOf, Zw.still, ixD, ixN, itemsD, wipe, bindT, bindTs, seens, B.seen, Zw.walk, frzs, setAll, gives, eqOk_int, eqB_int, compL, len2, len3, eqOk_pt, eqB_pt, lstAt, lstPut, slice, cut, sIx, Zw.line, tellR, tlFind, enumD, zipD, zipS, turnC, e], g', b', rfl, gd'⟩) ((List.range 6).map fun (k : Nat) => D.int (0 + (k : Int))) [] [bag g b] ⟨g, b, rfl, h⟩
  subst hs
  exact ⟨g', b', ev_comp_st (bs := [.t (.int 6)]) (s1 := [bag g b]) (by simp [evl, ev, R.bind, B.still]) rfl e, gd⟩
theorem loop_ok (ns : List Int) (hn : ns.length ≤ 63) : ∃ o, Zw.execs (gx 60) (f_law.body.take 1) (rL (.lst (ns.map D.int)) none none) [] = .nx (rL (.lst (ns.map D.int)) o none) [] := by
  simp only [f_law, List.take]
  generalize hK : (if (if (ns.length : Int) < 4 then (ns.length : Int) else 4) > 1 then (if (ns.length : Int) < 4 then (ns.length : Int) else 4) else 1) = K
  have k1 : 1 ≤ K := by rw [← hK]; split <;> omega
  have k4 : K ≤ 4 := by rw [← hK]; split <;> split <;> omega
  have hits : evl (gx 60) [(.b2 .max2 (.cst (.int 1)) (.b2 .min2 (.cst (.int 4)) (.b1 .len (.var 0))))] (rL (.lst (ns.map D.int)) none none) [] = .ok [.t (.int K)] [] := by
    simp [gx_fn, runF, enter, B.par, Zw.execs, Zw.exec, Zw.ev, evl, evs, evg, evO, evAnd, evOr, evConds, evT, R.bind, R.to, R.of, readV, truB, B.look, B.peek, B.frz, B.give, B.still, B.bl?, D.tru, op2, opAdd, opSub, opMul, opMod, opFdiv, opPow, cmp2, cmLt, cmI, cmN, cmIn, D.isNon, bi1, bi2, biLen, biAbs, biInt, biAll, biTuple, biList, biSum, bi2I, ty_int, ty_bool, ty_tup, blsOf, Zw.still, ixD, ixN, itemsD, wipe, bindT, bindTs, seens, B.seen, Zw.walk, frzs, setAll, gives, eqOk_int, eqB_int, compL, len2, len3, eqOk_pt, eqB_pt, lstAt, lstPut, slice, cut, sIx, Zw.line, tellR, tlFind, enumD, zipD, zipS]
    exact hK
  have hwalk : (frzs [.t (.int K)]).bind (walk 1) = some ((List.range K.toNat).map fun (k : Nat) => D.int (0 + (k : Int))) := by
    show rangeD 0 K = _
    unfold rangeD
    rw [if_pos ⟨by decide, by decide, by omega, by omega⟩, Int.sub_zero]
  obtain ⟨ρ', s', e, rfl, o, rfl⟩ := forLc_inv (n := 0) (f := fun x ρ s => match bindT (.nm 1) x ρ with
          | none => .bad
          | some ρ => Zw.execs (gx 60) [(.asg 2 (.call 24 [(.var 0), (.var 1)])), (.mv 2), (.ite (.cmp .ne cR (.lst [])) [(.ret (.cst (.bl false)))] [])] ρ s)
      (fun ρ s => s = [] ∧ ∃ o, ρ = rL (.lst (ns.map D.int)) o none) ((List.range K.toNat).map fun (k : Nat) => D.int (0 + (k : Int))) (fun x hx ρ s hp => by
    obtain ⟨rfl, o, rfl⟩ := hp
    obtain ⟨k, hk, rfl⟩ := List.mem_map.mp hx
    have hk := List.mem_range.mp hk
    obtain ⟨g, b, e1, gd⟩ := bag_ok 59 (ns := ns) (at_ := 0 + (k : Int)) (by omega) (by omega)
    have e1 := cs_st e1
    obtain ⟨g', b', e2, gd'⟩ := rights_ok (.lst (ns.map D.int)) (.int (0 + (k : Int))) gd
    generalize (0 + (k : Int)) = kk at *
    generalize cR = C at *
    have he : eqOk (.lst []) (.lst []) = true := rfl
    have hb : eqB (.lst []) (.lst []) = true := rfl
    refine ⟨rL (.lst (ns.map D.int)) (some (.t (.int kk))) (some (.r 0)), [bag g' b'], ?_, rfl, some (.t (.int kk)), rfl⟩
    unfold rL at *
    simp [gx_fn, runF, enter, B.par, Zw.execs, Zw.exec, Zw.ev, evl, evs, evg, evO, evAnd, evOr, evConds, evT, R.bind, R.to, R.of, readV, truB, B.look, B.peek, B.frz, B.give, B.still, B.bl?, D.tru, op2, opAdd, opSub, opMul, opMod, opFdiv, opPow, cmp2, cmLt, cmI, cmN, cmIn, D.isNon, bi1, bi2, biLen, biAbs, biInt, biAll, biTuple, biList, biSum, bi2I, ty_int, ty_bool, ty_tup, blsOf, Zw.still, ixD, ixN, itemsD, wipe, bindT, bindTs, seens, B.seen, Zw.walk, frzs, setAll, gives, eqOk_int, eqB_int, compL, len2, len3, eqOk_pt, eqB_pt, lstAt, lstPut, slice, cut, sIx, Zw.line, tellR, tlFind, enumD, zipD, zipS, e1, e2, he, hb]) (rL (.lst (ns.map D.int)) none none) [] ⟨rfl, none, rfl⟩
  refine ⟨o, ?_⟩
  rw [Zw.execs, exec_for_of hits hwalk]
  have key : ∀ r : RS, r = .nx (rL (.lst (ns.map D.int)) o none) [] → (match r with
      | .nx ρ' s' => Zw.execs (gx 60) [] ρ' s'
      | r => r) = .nx (rL (.lst (ns.map D.int)) o none) [] := fun r h => by rw [h]; simp [Zw.execs]
  exact key _ e
theorem main (ns : List Int) (hn : ns.length ≤ 63) (_ : ∀ x ∈ ns, Builtin.Int.intBits x ≤ 1048576) : md.call (60 + 1) 28 [.sc (.lst (ns.map D.int))] [] = .ok (.t (.bl true)) [] := by
  obtain ⟨o, e⟩ := loop_ok ns hn
  rw [u_law]
  have t : Zw.execs (gx 60) (f_law.body.drop 1) (rL (.lst (ns.map D.int)) o none) [] = .rt (.t (.bl true)) [] := by
    generalize D.lst (ns.map D.int) = L
    kernel_rfl
  have tot : Zw.execs (gx 60) f_law.body (enter f_law [.sc (.lst (ns.map D.int))]) [] = .rt (.t (.bl true)) [] := (execs_nx 1 e).trans t
  unfold runF
  rw [if_pos (show [B.sc (.lst (ns.map D.int))].length = f_law.params from rfl), tot]
  rfl
end Law
set_option maxHeartbeats 0
namespace Law
open Zw PySem PySem.Spec PyProof.Rows L2
def top (i : Nat) : Stmt := PySem.Challenge.pw_leastburn_k72_errors_of_points.main.body.getD i (.Pass ⟨0, 0, 0, 0⟩)
def n_is_whole : List Str := [Str.ofString "value"]
def i_is_whole : FnI := ⟨Str.ofString "is_whole", top 6, n_is_whole, f_is_whole⟩
def n_lowest : List Str := [Str.ofString "top", Str.ofString "bottom", Str.ofString "sign", Str.ofString "shared"]
def i_lowest : FnI := ⟨Str.ofString "lowest", top 9, n_lowest, f_lowest⟩
def n_turn_in : List Str := [Str.ofString "one", Str.ofString "other"]
def i_turn_in : FnI := ⟨Str.ofString "turn_in", top 10, n_turn_in, f_turn_in⟩
def n_along_in : List Str := [Str.ofString "one", Str.ofString "other"]
def i_along_in : FnI := ⟨Str.ofString "along_in", top 11, n_along_in, f_along_in⟩
def n_is_point_of : List Str := [Str.ofString "value", Str.ofString "one"]
def i_is_point_of : FnI := ⟨Str.ofString "is_point_of", top 12, n_is_point_of, f_is_point_of⟩
def n_is_direction_of : List Str := [Str.ofString "value"]
def i_is_direction_of : FnI := ⟨Str.ofString "is_direction_of", top 13, n_is_direction_of, f_is_direction_of⟩
def n_is_integer_of : List Str := [Str.ofString "value"]
def i_is_integer_of : FnI := ⟨Str.ofString "is_integer_of", top 14, n_is_integer_of, f_is_integer_of⟩
def n_is_fraction_of : List Str := [Str.ofString "value", Str.ofString "one"]
def i_is_fraction_of : FnI := ⟨Str.ofString "is_fraction_of", top 15, n_is_fraction_of, f_is_fraction_of⟩
def n_is_wedge_of : List Str := [Str.ofString "value", Str.ofString "found"]
def i_is_wedge_of : FnI := ⟨Str.ofString "is_wedge_of", top 16, n_is_wedge_of, f_is_wedge_of⟩
def n_is_half_of : List Str := [Str.ofString "value", Str.ofString "one"]
def i_is_half_of : FnI := ⟨Str.ofString "is_half_of", top 17, n_is_half_of, f_is_half_of⟩
def n_halves_in : List Str := [Str.ofString "wedge", Str.ofString "p", Str.ofString "q", Str.ofString "a", Str.ofString "b", Str.ofString "c", Str.ofString "d", Str.ofString "found"]
def i_halves_in : FnI := ⟨Str.ofString "halves_in", top 18, n_halves_in, f_halves_in⟩
def n_is_below : List Str := [Str.ofString "half", Str.ofString "place", Str.ofString "a", Str.ofString "b", Str.ofString "c", Str.ofString "x", Str.ofString "under_x", Str.ofString "y", Str.ofString "under_y"]
def i_is_below : FnI := ⟨Str.ofString "is_below", top 19, n_is_below, f_is_below⟩
def n_is_held : List Str := [Str.ofString "wedge", Str.ofString "place", Str.ofString "half"]
def i_is_held : FnI := ⟨Str.ofString "is_held", top 20, n_is_held, f_is_held⟩
def n_crossing_in : List Str := [Str.ofString "one", Str.ofString "other", Str.ofString "a", Str.ofString "b", Str.ofString "c", Str.ofString "d", Str.ofString "e", Str.ofString "f", Str.ofString "under"]
def i_crossing_in : FnI := ⟨Str.ofString "crossing_in", top 21, n_crossing_in, f_crossing_in⟩
def n_require_direction : List Str := [Str.ofString "value"]
def i_require_direction : FnI := ⟨Str.ofString "require_direction", top 22, n_require_direction, f_require_direction⟩
def n_require_wedge : List Str := [Str.ofString "value"]
def i_require_wedge : FnI := ⟨Str.ofString "require_wedge", top 23, n_require_wedge, f_require_wedge⟩
def n_turn : List Str := [Str.ofString "one", Str.ofString "other"]
def i_turn : FnI := ⟨Str.ofString "turn", top 24, n_turn, f_turn⟩
def n_is_wedge : List Str := [Str.ofString "value"]
def i_is_wedge : FnI := ⟨Str.ofString "is_wedge", top 25, n_is_wedge, f_is_wedge⟩
def n_is_place : List Str := [Str.ofString "value", Str.ofString "one"]
def i_is_place : FnI := ⟨Str.ofString "is_place", top 26, n_is_place, f_is_place⟩
def n_half_planes : List Str := [Str.ofString "wedge"]
def i_half_planes : FnI := ⟨Str.ofString "half_planes", top 27, n_half_planes, f_half_planes⟩
def n_holds : List Str := [Str.ofString "wedge", Str.ofString "place"]
def i_holds : FnI := ⟨Str.ofString "holds", top 28, n_holds, f_holds⟩
def n_place_of : List Str := [Str.ofString "point"]
def i_place_of : FnI := ⟨Str.ofString "place_of", top 29, n_place_of, f_place_of⟩
def n_crossing : List Str := [Str.ofString "one", Str.ofString "other", Str.ofString "half"]
def i_crossing : FnI := ⟨Str.ofString "crossing", top 30, n_crossing, f_crossing⟩
def n_cells_in : List Str := [Str.ofString "points", Str.ofString "wedge", Str.ofString "point", Str.ofString "at", Str.ofString "x", Str.ofString "y"]
def i_cells_in : FnI := ⟨Str.ofString "cells_in", top 31, n_cells_in, f_cells_in⟩
def n__law_bag : List Str := [Str.ofString "script", Str.ofString "at", Str.ofString "cell", Str.ofString "great", Str.ofString "blend"]
def i__law_bag : FnI := ⟨Str.ofString "_law_bag", top 33, n__law_bag, f__law_bag⟩
def n__law_draw : List Str := [Str.ofString "bag", Str.ofString "many", Str.ofString "found"]
def i__law_draw : FnI := ⟨Str.ofString "_law_draw", top 34, n__law_draw, f__law_draw⟩
def n__law_one_of : List Str := [Str.ofString "bag", Str.ofString "items"]
def i__law_one_of : FnI := ⟨Str.ofString "_law_one_of", top 35, n__law_one_of, f__law_one_of⟩
def n__law_right : List Str := [Str.ofString "bag", Str.ofString "way", Str.ofString "wedges", Str.ofString "wedge", Str.ofString "places", Str.ofString "place", Str.ofString "plane", Str.ofString "points", Str.ofString "point", Str.ofString "fine", Str.ofString "right", Str.ofString "told"]
def i__law_right : FnI := ⟨Str.ofString "_law_right", top 37, n__law_right, f__law_right⟩
def n_law : List Str := [Str.ofString "script", Str.ofString "at", Str.ofString "bag", Str.ofString "again", Str.ofString "far", Str.ofString "told"]
def i_law : FnI := ⟨Str.ofString "law", top 38, n_law, f_law⟩
def i__law_is_refused : TlI := ⟨Str.ofString "_law_is_refused", top 36, t__law_is_refused⟩
def fnm0 : List Str := [Str.ofString "is_whole", Str.ofString "lowest", Str.ofString "turn_in", Str.ofString "along_in", Str.ofString "is_point_of", Str.ofString "is_direction_of", Str.ofString "is_integer_of", Str.ofString "is_fraction_of"]
def fnm1 : List Str := [Str.ofString "is_wedge_of", Str.ofString "is_half_of", Str.ofString "halves_in", Str.ofString "is_below", Str.ofString "is_held", Str.ofString "crossing_in", Str.ofString "require_direction", Str.ofString "require_wedge"]
def fnm2 : List Str := [Str.ofString "turn", Str.ofString "is_wedge", Str.ofString "is_place", Str.ofString "half_planes", Str.ofString "holds", Str.ofString "place_of", Str.ofString "crossing", Str.ofString "cells_in"]
def fnm3 : List Str := [Str.ofString "_law_bag", Str.ofString "_law_draw", Str.ofString "_law_one_of", Str.ofString "_law_right", Str.ofString "law"]
def fnm : List Str := fnm0 ++ fnm1 ++ fnm2 ++ fnm3
def clm0 : List Str := [Str.ofString "FireError", Str.ofString "InvalidPoint"]
def clm : List Str := clm0
def tlm0 : List Str := [Str.ofString "_law_is_refused"]
def tlm : List Str := tlm0
def mkr0 : List Str := [Str.ofString "_law_right"]
def mkr : List Str := mkr0
def gcn0 : List Str := [Str.ofString "GREAT", Str.ofString "MOST_POINTS"]
def gcn : List Str := gcn0
def free0 : List Str := [Str.ofString "len", Str.ofString "isinstance", Str.ofString "int", Str.ofString "bool", Str.ofString "tuple", Str.ofString "range", Str.ofString "max", Str.ofString "min"]
def free1 : List Str := [Str.ofString "abs", Str.ofString "repr", Str.ofString "all", Str.ofString "enumerate"]
def free : List Str := free0 ++ free1
def loose0 : List Str := [Str.ofString "FireError", Str.ofString "InvalidPoint", Str.ofString "GREAT", Str.ofString "is_whole", Str.ofString "MOST_POINTS", Str.ofString "lowest", Str.ofString "turn_in", Str.ofString "along_in"]
def loose1 : List Str := [Str.ofString "is_point_of", Str.ofString "is_direction_of", Str.ofString "is_integer_of", Str.ofString "is_fraction_of", Str.ofString "is_wedge_of", Str.ofString "is_half_of", Str.ofString "halves_in", Str.ofString "is_below"]
def loose2 : List Str := [Str.ofString "is_held", Str.ofString "crossing_in", Str.ofString "require_direction", Str.ofString "require_wedge", Str.ofString "turn", Str.ofString "is_wedge", Str.ofString "is_place", Str.ofString "half_planes"]
def loose3 : List Str := [Str.ofString "holds", Str.ofString "place_of", Str.ofString "crossing", Str.ofString "cells_in", Str.ofString "_law_bag", Str.ofString "_law_draw", Str.ofString "_law_one_of", Str.ofString "_law_is_refused"]
def loose4 : List Str := [Str.ofString "_law_right"]
def loose : List Str := loose0 ++ loose1 ++ loose2 ++ loose3 ++ loose4
def lw : Lw := ⟨⟨fnm, gcn, free, true, clm, tlm, mkr⟩, md.gcs, [i_is_whole, i_lowest, i_turn_in, i_along_in, i_is_point_of, i_is_direction_of, i_is_integer_of, i_is_fraction_of, i_is_wedge_of, i_is_half_of, i_halves_in, i_is_below, i_is_held, i_crossing_in, i_require_direction, i_require_wedge, i_turn, i_is_wedge, i_is_place, i_half_planes, i_holds, i_place_of, i_crossing, i_cells_in, i__law_bag, i__law_draw, i__law_one_of, i__law_right, i_law], sb, [i__law_is_refused]⟩
theorem md_eq : lw.md = md := rfl
theorem lw_ok : lw.ok 80 = true := by decide +kernel
theorem b_is_whole (kV doc pm : Value) (an : Option Addr) (cdv ct : Value) (us : List Value) (h : us.length = i_is_whole.ps.length) : bindArgs (PySem.W.fnOf i_is_whole.x i_is_whole.x (defArgs i_is_whole.st) (defBody i_is_whole.st) (defScope i_is_whole.st) .none kV doc pm an cdv ct) ⟨us, []⟩ = pure (i_is_whole.ps.zip us) := match us, h with | [_], _ => rfl
theorem b_lowest (kV doc pm : Value) (an : Option Addr) (cdv ct : Value) (us : List Value) (h : us.length = i_lowest.ps.length) : bindArgs (PySem.W.fnOf i_lowest.x i_lowest.x (defArgs i_lowest.st) (defBody i_lowest.st) (defScope i_lowest.st) .none kV doc pm an cdv ct) ⟨us, []⟩ = pure (i_lowest.ps.zip us) := match us, h with | [_, _], _ => rfl
theorem b_turn_in (kV doc pm : Value) (an : Option Addr) (cdv ct : Value) (us : List Value) (h : us.length = i_turn_in.ps.length) : bindArgs (PySem.W.fnOf i_turn_in.x i_turn_in.x (defArgs i_turn_in.st) (defBody i_turn_in.st) (defScope i_turn_in.st) .none kV doc pm an cdv ct) ⟨us, []⟩ = pure (i_turn_in.ps.zip us) := match us, h with | [_, _], _ => rfl
theorem b_along_in (kV doc pm : Value) (an : Option Addr) (cdv ct : Value) (us : List Value) (h : us.length = i_along_in.ps.length) : bindArgs (PySem.W.fnOf i_along_in.x i_along_in.x (defArgs i_along_in.st) (defBody i_along_in.st) (defScope i_along_in.st) .none kV doc pm an cdv ct) ⟨us, []⟩ = pure (i_along_in.ps.zip us) := match us, h with | [_, _], _ => rfl
theorem b_is_point_of (kV doc pm : Value) (an : Option Addr) (cdv ct : Value) (us : List Value) (h : us.length = i_is_point_of.ps.length) : bindArgs (PySem.W.fnOf i_is_point_of.x i_is_point_of.x (defArgs i_is_point_of.st) (defBody i_is_point_of.st) (defScope i_is_point_of.st) .none kV doc pm an cdv ct) ⟨us, []⟩ = pure (i_is_point_of.ps.zip us) := match us, h with | [_], _ => rfl
theorem b_is_direction_of (kV doc pm : Value) (an : Option Addr) (cdv ct : Value) (us : List Value) (h : us.length = i_is_direction_of.ps.length) : bindArgs (PySem.W.fnOf i_is_direction_of.x i_is_direction_of.x (defArgs i_is_direction_of.st) (defBody i_is_direction_of.st) (defScope i_is_direction_of.st) .none kV doc pm an cdv ct) ⟨us, []⟩ = pure (i_is_direction_of.ps.zip us) := match us, h with | [_], _ => rfl
theorem b_is_integer_of (kV doc pm : Value) (an : Option Addr) (cdv ct : Value) (us : List Value) (h : us.length = i_is_integer_of.ps.length) : bindArgs (PySem.W.fnOf i_is_integer_of.x i_is_integer_of.x (defArgs i_is_integer_of.st) (defBody i_is_integer_of.st) (defScope i_is_integer_of.st) .none kV doc pm an cdv ct) ⟨us, []⟩ = pure (i_is_integer_of.ps.zip us) := match us, h with | [_], _ => rfl
theorem b_is_fraction_of (kV doc pm : Value) (an : Option Addr) (cdv ct : Value) (us : List Value) (h : us.length = i_is_fraction_of.ps.length) : bindArgs (PySem.W.fnOf i_is_fraction_of.x i_is_fraction_of.x (defArgs i_is_fraction_of.st) (defBody i_is_fraction_of.st) (defScope i_is_fraction_of.st) .none kV doc pm an cdv ct) ⟨us, []⟩ = pure (i_is_fraction_of.ps.zip us) := match us, h with | [_], _ => rfl
theorem b_is_wedge_of (kV doc pm : Value) (an : Option Addr) (cdv ct : Value) (us : List Value) (h : us.length = i_is_wedge_of.ps.length) : bindArgs (PySem.W.fnOf i_is_wedge_of.x i_is_wedge_of.x (defArgs i_is_wedge_of.st) (defBody i_is_wedge_of.st) (defScope i_is_wedge_of.st) .none kV doc pm an cdv ct) ⟨us, []⟩ = pure (i_is_wedge_of.ps.zip us) := match us, h with | [_], _ => rfl
theorem b_is_half_of (kV doc pm : Value) (an : Option Addr) (cdv ct : Value) (us : List Value) (h : us.length = i_is_half_of.ps.length) : bindArgs (PySem.W.fnOf i_is_half_of.x i_is_half_of.x (defArgs i_is_half_of.st) (defBody i_is_half_of.st) (defScope i_is_half_of.st) .none kV doc pm an cdv ct) ⟨us, []⟩ = pure (i_is_half_of.ps.zip us) := match us, h with | [_], _ => rfl
theorem b_halves_in (kV doc pm : Value) (an : Option Addr) (cdv ct : Value) (us : List Value) (h : us.length = i_halves_in.ps.length) : bindArgs (PySem.W.fnOf i_halves_in.x i_halves_in.x (defArgs i_halves_in.st) (defBody i_halves_in.st) (defScope i_halves_in.st) .none kV doc pm an cdv ct) ⟨us, []⟩ = pure (i_halves_in.ps.zip us) := match us, h with | [_], _ => rfl
theorem b_is_below (kV doc pm : Value) (an : Option Addr) (cdv ct : Value) (us : List Value) (h : us.length = i_is_below.ps.length) : bindArgs (PySem.W.fnOf i_is_below.x i_is_below.x (defArgs i_is_below.st) (defBody i_is_below.st) (defScope i_is_below.st) .none kV doc pm an cdv ct) ⟨us, []⟩ = pure (i_is_below.ps.zip us) := match us, h with | [_, _], _ => rfl
theorem b_is_held (kV doc pm : Value) (an : Option Addr) (cdv ct : Value) (us : List Value) (h : us.length = i_is_held.ps.length) : bindArgs (PySem.W.fnOf i_is_held.x i_is_held.x (defArgs i_is_held.st) (defBody i_is_held.st) (defScope i_is_held.st) .none kV doc pm an cdv ct) ⟨us, []⟩ = pure (i_is_held.ps.zip us) := match us, h with | [_, _], _ => rfl
theorem b_crossing_in (kV doc pm : Value) (an : Option Addr) (cdv ct : Value) (us : List Value) (h : us.length = i_crossing_in.ps.length) : bindArgs (PySem.W.fnOf i_crossing_in.x i_crossing_in.x (defArgs i_crossing_in.st) (defBody i_crossing_in.st) (defScope i_crossing_in.st) .none kV doc pm an cdv ct) ⟨us, []⟩ = pure (i_crossing_in.ps.zip us) := match us, h with | [_, _], _ => rfl
theorem b_require_direction (kV doc pm : Value) (an : Option Addr) (cdv ct : Value) (us : List Value) (h : us.length = i_require_direction.ps.length) : bindArgs (PySem.W.fnOf i_require_direction.x i_require_direction.x (defArgs i_require_direction.st) (defBody i_require_direction.st) (defScope i_require_direction.st) .none kV doc pm an cdv ct) ⟨us, []⟩ = pure (i_require_direction.ps.zip us) := match us, h with | [_], _ => rfl
theorem b_require_wedge (kV doc pm : Value) (an : Option Addr) (cdv ct : Value) (us : List Value) (h : us.length = i_require_wedge.ps.length) : bindArgs (PySem.W.fnOf i_require_wedge.x i_require_wedge.x (defArgs i_require_wedge.st) (defBody i_require_wedge.st) (defScope i_require_wedge.st) .none kV doc pm an cdv ct) ⟨us, []⟩ = pure (i_require_wedge.ps.zip us) := match us, h with | [_], _ => rfl
theorem b_turn (kV doc pm : Value) (an : Option Addr) (cdv ct : Value) (us : List Value) (h : us.length = i_turn.ps.length) : bindArgs (PySem.W.fnOf i_turn.x i_turn.x (defArgs i_turn.st) (defBody i_turn.st) (defScope i_turn.st) .none kV doc pm an cdv ct) ⟨us, []⟩ = pure (i_turn.ps.zip us) := match us, h with | [_, _], _ => rfl
theorem b_is_wedge (kV doc pm : Value) (an : Option Addr) (cdv ct : Value) (us : List Value) (h : us.length = i_is_wedge.ps.length) : bindArgs (PySem.W.fnOf i_is_wedge.x i_is_wedge.x (defArgs i_is_wedge.st) (defBody i_is_wedge.st) (defScope i_is_wedge.st) .none kV doc pm an cdv ct) ⟨us, []⟩ = pure (i_is_wedge.ps.zip us) := match us, h with | [_], _ => rfl
theorem b_is_place (kV doc pm : Value) (an : Option Addr) (cdv ct : Value) (us : List Value) (h : us.length = i_is_place.ps.length) : bindArgs (PySem.W.fnOf i_is_place.x i_is_place.x (defArgs i_is_place.st) (defBody i_is_place.st) (defScope i_is_place.st) .none kV doc pm an cdv ct) ⟨us, []⟩ = pure (i_is_place.ps.zip us) := match us, h with | [_], _ => rfl
theorem b_half_planes (kV doc pm : Value) (an : Option Addr) (cdv ct : Value) (us : List Value) (h : us.length = i_half_planes.ps.length) : bindArgs (PySem.W.fnOf i_half_planes.x i_half_planes.x (defArgs i_half_planes.st) (defBody i_half_planes.st) (defScope i_half_planes.st) .none kV doc pm an cdv ct) ⟨us, []⟩ = pure (i_half_planes.ps.zip us) := match us, h with | [_], _ => rfl
theorem b_holds (kV doc pm : Value) (an : Option Addr) (cdv ct : Value) (us : List Value) (h : us.length = i_holds.ps.length) : bindArgs (PySem.W.fnOf i_holds.x i_holds.x (defArgs i_holds.st) (defBody i_holds.st) (defScope i_holds.st) .none kV doc pm an cdv ct) ⟨us, []⟩ = pure (i_holds.ps.zip us) := match us, h with | [_, _], _ => rfl
theorem b_place_of (kV doc pm : Value) (an : Option Addr) (cdv ct : Value) (us : List Value) (h : us.length = i_place_of.ps.length) : bindArgs (PySem.W.fnOf i_place_of.x i_place_of.x (defArgs i_place_of.st) (defBody i_place_of.st) (defScope i_place_of.st) .none kV doc pm an cdv ct) ⟨us, []⟩ = pure (i_place_of.ps.zip us) := match us, h with | [_], _ => rfl
theorem b_crossing (kV doc pm : Value) (an : Option Addr) (cdv ct : Value) (us : List Value) (h : us.length = i_crossing.ps.length) : bindArgs (PySem.W.fnOf i_crossing.x i_crossing.x (defArgs i_crossing.st) (defBody i_crossing.st) (defScope i_crossing.st) .none kV doc pm an cdv ct) ⟨us, []⟩ = pure (i_crossing.ps.zip us) := match us, h with | [_, _], _ => rfl
theorem b_cells_in (kV doc pm : Value) (an : Option Addr) (cdv ct : Value) (us : List Value) (h : us.length = i_cells_in.ps.length) : bindArgs (PySem.W.fnOf i_cells_in.x i_cells_in.x (defArgs i_cells_in.st) (defBody i_cells_in.st) (defScope i_cells_in.st) .none kV doc pm an cdv ct) ⟨us, []⟩ = pure (i_cells_in.ps.zip us) := match us, h with | [_, _], _ => rfl
theorem b__law_bag (kV doc pm : Value) (an : Option Addr) (cdv ct : Value) (us : List Value) (h : us.length = i__law_bag.ps.length) : bindArgs (PySem.W.fnOf i__law_bag.x i__law_bag.x (defArgs i__law_bag.st) (defBody i__law_bag.st) (defScope i__law_bag.st) .none kV doc pm an cdv ct) ⟨us, []⟩ = pure (i__law_bag.ps.zip us) := match us, h with | [_, _], _ => rfl
theorem b__law_draw (kV doc pm : Value) (an : Option Addr) (cdv ct : Value) (us : List Value) (h : us.length = i__law_draw.ps.length) : bindArgs (PySem.W.fnOf i__law_draw.x i__law_draw.x (defArgs i__law_draw.st) (defBody i__law_draw.st) (defScope i__law_draw.st) .none kV doc pm an cdv ct) ⟨us, []⟩ = pure (i__law_draw.ps.zip us) := match us, h with | [_, _], _ => rfl
theorem b__law_one_of (kV doc pm : Value) (an : Option Addr) (cdv ct : Value) (us : List Value) (h : us.length = i__law_one_of.ps.length) : bindArgs (PySem.W.fnOf i__law_one_of.x i__law_one_of.x (defArgs i__law_one_of.st) (defBody i__law_one_of.st) (defScope i__law_one_of.st) .none kV doc pm an cdv ct) ⟨us, []⟩ = pure (i__law_one_of.ps.zip us) := match us, h with | [_, _], _ => rfl
theorem b__law_right (kV doc pm : Value) (an : Option Addr) (cdv ct : Value) (us : List Value) (h : us.length = i__law_right.ps.length) : bindArgs (PySem.W.fnOf i__law_right.x i__law_right.x (defArgs i__law_right.st) (defBody i__law_right.st) (defScope i__law_right.st) .none kV doc pm an cdv ct) ⟨us, []⟩ = pure (i__law_right.ps.zip us) := match us, h with | [_], _ => rfl
theorem b_law (kV doc pm : Value) (an : Option Addr) (cdv ct : Value) (us : List Value) (h : us.length = i_law.ps.length) : bindArgs (PySem.W.fnOf i_law.x i_law.x (defArgs i_law.st) (defBody i_law.st) (defScope i_law.st) .none kV doc pm an cdv ct) ⟨us, []⟩ = pure (i_law.ps.zip us) := match us, h with | [_], _ => rfl
theorem b__law_is_refused : ParB i__law_is_refused.x i__law_is_refused.st := fun kV doc pm an cdv ct u => ⟨Str.ofString "call", rfl, rfl⟩
theorem lw_binds : lw.Binds := by
  constructor
  rotate_left
  · intro t ht
    have ht : t ∈ [i__law_is_refused] := ht
    simp only [List.mem_cons, List.not_mem_nil, or_false] at ht
    rcases ht with rfl
    · exact b__law_is_refused
  intro i hi
  have hi : i ∈ [i_is_whole, i_lowest, i_turn_in, i_along_in, i_is_point_of, i_is_direction_of, i_is_integer_of, i_is_fraction_of, i_is_wedge_of, i_is_half_of, i_halves_in, i_is_below, i_is_held, i_crossing_in, i_require_direction, i_require_wedge, i_turn, i_is_wedge, i_is_place, i_half_planes, i_holds, i_place_of, i_crossing, i_cells_in, i__law_bag, i__law_draw, i__law_one_of, i__law_right, i_law] := hi
  simp only [List.mem_cons, List.not_mem_nil, or_false] at hi
  rcases hi with rfl | rfl | rfl | rfl | rfl | rfl | rfl | rfl | rfl | rfl | rfl | rfl | rfl | rfl | rfl | rfl | rfl | rfl | rfl | rfl | rfl | rfl | rfl | rfl | rfl | rfl | rfl | rfl | rfl
  · exact b_is_whole
  · exact b_lowest
  · exact b_turn_in
  · exact b_along_in
  · exact b_is_point_of
  · exact b_is_direction_of
  · exact b_is_integer_of
  · exact b_is_fraction_of
  · exact b_is_wedge_of
  · exact b_is_half_of
  · exact b_halves_in
  · exact b_is_below
  · exact b_is_held
  · exact b_crossing_in
  · exact b_require_direction
  · exact b_require_wedge
  · exact b_turn
  · exact b_is_wedge
  · exact b_is_place
  · exact b_half_planes
  · exact b_holds
  · exact b_place_of
  · exact b_crossing
  · exact b_cells_in
  · exact b__law_bag
  · exact b__law_draw
  · exact b__law_one_of
  · exact b__law_right
  · exact b_law
abbrev Rr : PySem.W.OpenRow := PySem.W.OpenLaw.row PySem.Challenge.rw_leastburn_k72_errors_of_points
theorem run (w : World) : HandSHeadRun.RunEqI Rr (PySem.W.view Rr.prog [0, 38]) (lw.hook 4) (lw.ob 4) 3000 loose w := by
  unfold HandSHeadRun.RunEqI
  kernel_rfl
end Law
open PySem PySem.W PySem.Calls PyProof.Rows in
theorem PySem.Challenge.cw_leastburn_k72_errors_of_points_holds : PySem.Challenge.rw_leastburn_k72_errors_of_points.Holds := by
  w_on; o_law
  refine HandSHeadRun.head_imp (r := OpenLaw.row PySem.Challenge.rw_leastburn_k72_errors_of_points) (q := view (OpenLaw.row PySem.Challenge.rw_leastburn_k72_errors_of_points).prog [0, 38]) (H := Law.lw.hook 4) (ob := Law.lw.ob 4) (M := 3000) (loose := Law.loose)
    (d := HandSHeadRun.topDef (OpenLaw.row PySem.Challenge.rw_leastburn_k72_errors_of_points).prog 38) (kwd := []) (Zw.Lw.ob_eq Law.lw 4)
    Law.run (by kernel_rfl) (by kernel_rfl) (by kernel_rfl)
    (by rfl) (by first | assumption | decide +kernel) (by decide +kernel)
    ⟨rfl, rfl, rfl, rfl, rfl, by decide +kernel⟩ ?hw ?hc
  case hw => w_witness2
  case hc =>
    exact Zw.law_end (l := PySem.Challenge.rw_leastburn_k72_errors_of_points) (L := Law.lw) (m := 80) (k := 60) (j := 28) (n := 63)
      (i := Law.i_law) rfl (by decide) (by kernel_rfl) Law.lw_ok Law.lw_binds ⟨rfl, by decide, by decide⟩
      rfl (by kernel_rfl) (by rw [Law.md_eq]; exact Law.main)
