import PyProof.Rows.All
import PyProof.P3Statements
import PyProof.EqLayable
import PyProof.ReprReads
import Wide.All
import OpenK.AllK
import Wide.FinOn
import HandS.ForMost
import HandS.Exc
import HandS.TryOnly
import HandS.ExcOwn
import HandS.WordsExc
import HandS.Defaults
import HandS.Wide
import HandS.Gcd
import HandS.TupAny
import HandS.TupMul
import HandS.Star
import HandS.Deep
import HandS.Flow
import HandS.Style
import HandS.Zip
import HandS.More
import HandS.Lambda
import HandS.IsInst
import HandS.Head0
import HandS.Head1
import HandS.Head2
import HandS.HeadEnd
import HandS.HeadHook1
import HandS.HeadHook2
import HandS.EndBits
import PyProof.FitsInt
import PyProof.StrLawsRepr
import HandS.Head3
import PySem.Challenge.RW_leastburn_k70_whole_places_in_wedges
set_option linter.all false
set_option maxRecDepth 100000
/-! Zw0: a small interpreter of the Python that the linked texts use: values as trees, a store for what callees change. -/
namespace Zw
open PySem
/-- a value as a tree -/
inductive D where
  | non | bl (b : Bool) | int (i : Int) | str (s : Str)
  | tup (xs : List D) | lst (xs : List D)
  | ins (c : Nat) (fs : List D)
  deriving Inhabited
mutual
def D.py : D → PyData
  | .non => .none
  | .bl b => .bool b
  | .int i => .int i
  | .str s => .str s
  | .tup xs => .tuple (D.pys xs)
  | .lst xs => .list (D.pys xs)
  | .ins _ _ => .none
def D.pys : List D → List PyData
  | [] => []
  | x :: xs => x.py :: D.pys xs
end
mutual
/-- no instance within -/
def D.plain : D → Bool
  | .non => true
  | .bl _ => true
  | .int _ => true
  | .str _ => true
  | .tup xs => D.plains xs
  | .lst xs => D.plains xs
  | .ins _ _ => false
def D.plains : List D → Bool
  | [] => true
  | x :: xs => x.plain && D.plains xs
end
/-- what a slot holds, what an expression gives: a tree; a fresh list of one's own; a list that may be looked at alone; the script; a place of the store -/
inductive B where
  | t (d : D) | own (d : D) | bor (d : D) | sc (d : D) | r (k : Nat)
  deriving Inhabited
inductive O where
  | lst (xs : List D)
  deriving Inhabited
abbrev Store := List O
abbrev Env := List (Option B)
inductive R (α : Type) where
  | ok (a : α) (s : Store)
  | ex (c : Nat) (p : List D) (s : Store)
  | bad
inductive RS where
  | nx (ρ : Env) (s : Store)
  | rt (b : B) (s : Store)
  | bk (ρ : Env) (s : Store)
  | ct (ρ : Env) (s : Store)
  | ex (c : Nat) (p : List D) (ρ : Env) (s : Store)
  | bad
def R.bind {α β : Type} (x : R α) (f : α → Store → R β) : R β := match x with
  | .ok a s => f a s
  | .ex c p s => .ex c p s
  | .bad => .bad
def R.to {α : Type} (x : R α) (ρ : Env) (f : α → Store → RS) : RS := match x with
  | .ok a s => f a s
  | .ex c p s => .ex c p ρ s
  | .bad => .bad
def R.of {α : Type} (o : Option α) (s : Store) : R α := match o with
  | some a => .ok a s
  | none => .bad
def B.frz : B → Option D
  | .t d => some d
  | .own d => some d
  | _ => none
def B.peek (s : Store) : B → Option D
  | .t d => some d
  | .own d => some d
  | .bor d => some d
  | .sc _ => none
  | .r k => match s[k]? with
    | some (.lst xs) => some (.lst xs)
    | none => none
/-- what may be looked at, the script too -/
def B.look (s : Store) : B → Option D
  | .sc d => some d
  | b => b.peek s
def B.still : B → B
  | .own d => .t d
  | b => b
/-- what a name may be given -/
def B.give : B → Option B
  | .t d => some (.t d)
  | .own d => some (.own d)
  | _ => none
def line : Nat := 16777216
/-! ### operators -/
inductive Op2 where
  | add | sub | mul | mod | fdiv | pow
  deriving DecidableEq
inductive Cm where
  | eq | ne | lt | le | gt | ge | isN | notN | in_ | notIn
  deriving DecidableEq
def D.tru : D → Option Bool
  | .non => some false
  | .bl b => some b
  | .int i => some (i != 0)
  | .str s => if s.length ≤ line then some (s.length != 0) else none
  | .tup xs => some (!xs.isEmpty)
  | .lst xs => some (!xs.isEmpty)
  | .ins _ _ => none
def mulOk (i j : Int) : Bool := decide (i.natAbs.log2 + j.natAbs.log2 < 1000000)
def powOk (i j : Int) : Bool := decide (0 ≤ j) && decide (((i.natAbs.log2 + 1 : Nat) : Int) * j ≤ 134217728)
def opAdd : D → D → Option B
  | .int i, .int j => some (.t (.int (i + j)))
  | .str x, .str y => if x.length + y.length ≤ line then some (.t (.str (x ++ y))) else none
  | .lst xs, .lst ys => if xs.length + ys.length ≤ line then some (.own (.lst (xs ++ ys))) else none
  | .tup xs, .tup ys => if xs.length + ys.length ≤ line then some (.t (.tup (xs ++ ys))) else none
  | _, _ => none
def opSub : D → D → Option B
  | .int i, .int j => some (.t (.int (i - j)))
  | _, _ => none
def opMul : D → D → Option B
  | .int i, .int j => if mulOk i j then some (.t (.int (i * j))) else none
  | .lst xs, .int k => if k < 2 ^ 40 ∧ -(2 ^ 40) < k ∧ xs.length * k.toNat ≤ line then some (.own (.lst (List.replicate k.toNat xs).flatten)) else none
  | .tup xs, .int k => if xs.length ≠ 0 ∧ 2 ≤ k ∧ k ≤ 1000 ∧ xs.length ≤ 1000 then some (.t (.tup (List.replicate k.toNat xs).flatten)) else none
  | _, _ => none
def opMod : D → D → Option B
  | .int i, .int j => if 0 < j then some (.t (.int (i % j))) else none
  | _, _ => none
def opFdiv : D → D → Option B
  | .int i, .int j => if 0 < j ∧ j.natAbs.log2 < 9000 then some (.t (.int (i / j))) else none
  | _, _ => none
def opPow : D → D → Option B
  | .int i, .int j => if powOk i j then some (.t (.int (i ^ j.toNat))) else none
  | _, _ => none
def op2 : Op2 → D → D → Option B
  | .add => opAdd
  | .sub => opSub
  | .mul => opMul
  | .mod => opMod
  | .fdiv => opFdiv
  | .pow => opPow
def strs2 : D → D → Bool
  | .str _, .str _ => true
  | _, _ => false
def eqOk (a b : D) : Bool := strs2 a b || a.plain && b.plain && SeqAt.shaped a.py && SeqAt.shaped b.py
def eqB (a b : D) : Bool := PyData.eqv a.py b.py
def D.flat : D → Bool
  | .non => true
  | .bl _ => true
  | .int _ => true
  | .str _ => true
  | _ => false
def intsOf : List D → Option (List Int)
  | [] => some []
  | .int i :: r => (intsOf r).map (i :: ·)
  | _ => none
def lexLt : List Int → List Int → Bool
  | [], [] => false
  | [], _ :: _ => true
  | _ :: _, [] => false
  | x :: xs, y :: ys => if x = y then lexLt xs ys else decide (x < y)
def memOk (a : D) (xs : List D) : Bool := a.flat && xs.all D.flat
def memB (a : D) (xs : List D) : Bool := xs.any fun y => eqB y a
def cmLt : D → D → Option Bool
  | .int i, .int j => some (decide (i < j))
  | .tup xs, .tup ys => match intsOf xs, intsOf ys with
    | some ns, some ms => some (lexLt ns ms)
    | _, _ => none
  | _, _ => none
def cmI (p : Int → Int → Bool) : D → D → Option Bool
  | .int i, .int j => some (p i j)
  | _, _ => none
def D.isNon : D → Bool
  | .non => true
  | _ => false
def cmN (k : Bool) : D → D → Option Bool
  | a, .non => some (a.isNon == k)
  | _, _ => none
def cmIn (k : Bool) (a : D) : D → Option Bool
  | .lst xs => if memOk a xs then some (memB a xs == k) else none
  | .tup xs => if memOk a xs then some (memB a xs == k) else none
  | _ => none
def cmp2 : Cm → D → D → Option Bool
  | .eq => fun a b => if eqOk a b then some (eqB a b) else none
  | .ne => fun a b => if eqOk a b then some (!eqB a b) else none
  | .lt => cmLt
  | .le => cmI fun i j => decide (i ≤ j)
  | .gt => cmI fun i j => decide (j < i)
  | .ge => cmI fun i j => decide (j ≤ i)
  | .isN => cmN true
  | .notN => cmN false
  | .in_ => cmIn true
  | .notIn => cmIn false
/-! ### places, slices -/
def ixN (n : Nat) (i : Int) : Option Nat := if 0 ≤ i then (if i < n then some i.toNat else none) else if -(n : Int) ≤ i then some (i + n).toNat else none
def ixD {α : Type} (xs : List α) (i : Int) : Option α := (ixN xs.length i).bind fun j => xs[j]?
def sIx (n d : Nat) : Option Int → Nat
  | none => d
  | some v => if v < 0 then (v + n).toNat else min v.toNat n
def cut {α : Type} (xs : List α) (lo hi : Option Int) : List α := (xs.drop (sIx xs.length 0 lo)).take (sIx xs.length xs.length hi - sIx xs.length 0 lo)
def intO : Option D → Option (Option Int)
  | none => some none
  | some (.int i) => some (some i)
  | _ => none
def slice (d : D) (lo hi : Option Int) : Option B := match d with
  | .tup xs => some (.t (.tup (cut xs lo hi)))
  | .lst xs => some (.own (.lst (cut xs lo hi)))
  | _ => none
/-! ### built-ins -/
inductive Ty where
  | int | bool | tuple | list | str | dict | cls (c : Nat)
  deriving DecidableEq
def isTy : Ty → D → Bool
  | .int, .int _ => true
  | .int, .bl _ => true
  | .bool, .bl _ => true
  | .tuple, .tup _ => true
  | .list, .lst _ => true
  | .str, .str _ => true
  | .cls c, .ins c' _ => c == c'
  | _, _ => false
inductive Bi where
  | len | abs | max2 | min2 | int | all | any | repr | tuple | list | sum | gcd | isi (ty : Ty)
  deriving DecidableEq
def blsOf : List D → Option (List Bool)
  | [] => some []
  | .bl b :: r => (blsOf r).map (b :: ·)
  | _ => none
/-- what repr may be asked of -/
def reprOk (d : D) : Bool := d.plain && d.py.showable && decide (d.py.depth ≤ 64) && decide (d.py.shown.length ≤ line)
def biLen : D → Option B
  | .tup xs => some (.t (.int xs.length))
  | .lst xs => some (.t (.int xs.length))
  | .str s => if s.length ≤ line then some (.t (.int s.length)) else none
  | _ => none
def biAbs : D → Option B
  | .int i => some (.t (.int (if i < 0 then -i else i)))
  | _ => none
def biInt : D → Option B
  | .int i => some (.t (.int i))
  | .bl b => some (.t (.int (if b then 1 else 0)))
  | _ => none
def biAll (f : List Bool → Bool) : D → Option B
  | .lst xs => (blsOf xs).map fun bs => .t (.bl (f bs))
  | _ => none
def biTuple : D → Option B
  | .tup xs => some (.t (.tup xs))
  | .lst xs => some (.t (.tup xs))
  | _ => none
def biList : D → Option B
  | .tup xs => some (.own (.lst xs))
  | .lst xs => some (.own (.lst xs))
  | _ => none
def biSum : D → Option B
  | .lst xs => (intsOf xs).map fun ns => .t (.int ns.sum)
  | _ => none
def bi1 : Bi → D → Option B
  | .len => biLen
  | .abs => biAbs
  | .int => biInt
  | .all => biAll fun bs => bs.all id
  | .any => biAll fun bs => bs.any id
  | .repr => fun d => if reprOk d then some (.t (.str d.py.shown)) else none
  | .tuple => biTuple
  | .list => biList
  | .sum => biSum
  | .isi ty => fun d => some (.t (.bl (isTy ty d)))
  | _ => fun _ => none
def bi2I (f : Int → Int → Int) : D → D → Option B
  | .int i, .int j => some (.t (.int (f i j)))
  | _, _ => none
def bi2 : Bi → D → D → Option B
  | .max2 => bi2I fun i j => if j > i then j else i
  | .min2 => bi2I fun i j => if j < i then j else i
  | .gcd => bi2I fun i j => (Int.gcd i j : Nat)
  | _ => fun _ _ => none
/-! ### the core -/
inductive Tg where
  | nm (i : Nat)
  | tup (ts : List Tg)
mutual
def bindT : Tg → D → Env → Option Env
  | .nm i, d, ρ => some (ρ.set i (some (.t d)))
  | .tup ts, .tup xs, ρ => bindTs ts xs ρ
  | .tup _, _, _ => none
def bindTs : List Tg → List D → Env → Option Env
  | [], [], ρ => some ρ
  | t :: ts, x :: xs, ρ => (bindT t x ρ).bind (bindTs ts xs)
  | _, _, _ => none
end
inductive CE where
  | var (i : Nat)
  | cst (d : D)
  | gc (g : Nat)
  | bin (op : Op2) (a b : CE)
  | neg (a : CE)
  | notv (a : CE)
  | andv (es : List CE)
  | orv (es : List CE)
  | cmp (op : Cm) (a b : CE)
  | chain (o1 o2 : Cm) (a b c : CE)
  | ife (c a b : CE)
  | tup (es : List (Bool × CE))
  | lst (es : List (Bool × CE))
  | ix (a b : CE)
  | sl (a : CE) (lo hi : Option CE)
  | call (f : Nat) (es : List CE)
  | b1 (f : Bi) (a : CE)
  | b2 (f : Bi) (a b : CE)
  | comp (kind : Nat) (its : List CE) (tg : Tg) (own : List Nat) (conds : List CE) (elt : CE)
/-- what is walked: kind 0: items of a value, 1: range(n), 2: range(a, b), 3: enumerate(x), 4: zip(x, y) -/
def itemsD : D → Option (List D)
  | .tup xs => some xs
  | .lst xs => some xs
  | _ => none
def rangeD (lo hi : Int) : Option (List D) :=
  if -(2 ^ 62) ≤ lo ∧ lo < 2 ^ 62 ∧ -(2 ^ 62) ≤ hi ∧ hi < 2 ^ 62 then some ((List.range (hi - lo).toNat).map fun (k : Nat) => D.int (lo + (k : Int))) else none
def enumD (xs : List D) : List D := xs.zipIdx.map fun p => .tup [.int p.2, p.1]
def zipD (xs ys : List D) : List D := (xs.zip ys).map fun p => .tup [p.1, p.2]
def walk : Nat → List D → Option (List D)
  | 0, [d] => itemsD d
  | 1, [.int n] => rangeD 0 n
  | 2, [.int a, .int b] => rangeD a b
  | 3, [d] => (itemsD d).map enumD
  | 4, [d, e] => (itemsD d).bind fun xs => (itemsD e).map (zipD xs)
  | _, _ => none
/-- what a walk may go over: no place of the store -/
def B.seen : B → Option D
  | .t d => some d
  | .own d => some d
  | .bor d => some d
  | .sc d => some d
  | .r _ => none
def seens : List B → Option (List D)
  | [] => some []
  | b :: r => b.seen.bind fun d => (seens r).map (d :: ·)
def frzs : List B → Option (List D)
  | [] => some []
  | b :: r => b.frz.bind fun d => (frzs r).map (d :: ·)
/-- all turns of a comprehension -/
def compL (f : D → Store → R (Option D)) : List D → List D → Store → R (List D)
  | [], acc, s => .ok acc s
  | x :: xs, acc, s => match f x s with
    | .ok (some d) s' => if acc.length < line then compL f xs (acc ++ [d]) s' else .bad
    | .ok none s' => compL f xs acc s'
    | _ => .bad
def wipe (ρ : Env) : List Nat → Env
  | [] => ρ
  | i :: is => (wipe ρ is).set i none
/-! ### calls -/
def B.ref? : B → Option Nat
  | .r k => some k
  | _ => none
def renum : List B → Nat → List B
  | [], _ => []
  | .r _ :: r, n => .r n :: renum r (n + 1)
  | b :: r, n => b :: renum r n
def getAll (s : Store) : List Nat → Option (List O)
  | [] => some []
  | k :: r => s[k]?.bind fun o => (getAll s r).map (o :: ·)
def putAll (s : Store) : List Nat → List O → Store
  | [], _ => s
  | _ :: _, [] => s
  | k :: ks, o :: os => putAll (s.set k o) ks os
def callS (F : List B → Store → R B) (args : List B) (s : Store) : R B :=
  let ks := args.filterMap B.ref?
  if ks.Nodup then
    match getAll s ks with
    | some os => match F (renum args 0) os with
      | .ok b os' => match b.give with
        | some b => .ok b (putAll s ks os')
        | none => .bad
      | .ex c p os' => .ex c p (putAll s ks os')
      | .bad => .bad
    | none => .bad
  else .bad
/-- the functions, the module's constants -/
structure Gx where
  fn : Nat → List B → Store → R B
  gc : Nat → Option D
def readV : Option (Option B) → Option B
  | some (some (.own d)) => some (.bor d)
  | some (some b) => some b
  | _ => none
def B.bl? : B → Option Bool
  | .t (.bl b) => some b
  | _ => none
def truB (b : B) (s : Store) : Option Bool := (b.look s).bind D.tru
mutual
def ev (G : Gx) : CE → Env → Store → R B
  | .var i, ρ, s => .of (readV ρ[i]?) s
  | .cst d, _, s => .ok (.t d) s
  | .gc g, _, s => .of ((G.gc g).map .t) s
  | .bin op a b, ρ, s => (ev G a ρ s).bind fun x s => (ev G b ρ s).bind fun y s =>
      .of ((x.peek s).bind fun x => (y.peek s).bind fun y => op2 op x y) s
  | .neg a, ρ, s => (ev G a ρ s).bind fun x s => match x with
      | .t (.int i) => .ok (.t (.int (-i))) s
      | _ => .bad
  | .notv a, ρ, s => (ev G a ρ s).bind fun x s => .of ((truB x s).map fun b => .t (.bl (!b))) s
  | .andv es, ρ, s => evAnd G es ρ s
  | .orv es, ρ, s => evOr G es ρ s
  | .cmp op a b, ρ, s => (ev G a ρ s).bind fun x s => (ev G b ρ s).bind fun y s =>
      .of ((x.peek s).bind fun x => (y.peek s).bind fun y => (cmp2 op x y).map fun b => .t (.bl b)) s
  | .chain o1 o2 a b c, ρ, s => (ev G a ρ s).bind fun x s => (ev G b ρ s).bind fun y s =>
      match (x.peek s).bind fun x => (y.peek s).bind fun y => cmp2 o1 x y with
      | some true => (ev G c ρ s).bind fun z s => .of ((y.peek s).bind fun y => (z.peek s).bind fun z => (cmp2 o2 y z).map fun b => .t (.bl b)) s
      | some false => .ok (.t (.bl false)) s
      | none => .bad
  | .ife c a b, ρ, s => (ev G c ρ s).bind fun x s => match truB x s with
      | some true => ev G a ρ s
      | some false => ev G b ρ s
      | none => .bad
  | .tup es, ρ, s => (evs G es ρ s).bind fun xs s => if xs.length ≤ line then .ok (.t (.tup xs)) s else .bad
  | .lst es, ρ, s => (evs G es ρ s).bind fun xs s => if xs.length ≤ line then .ok (.own (.lst xs)) s else .bad
  | .ix a b, ρ, s => (ev G a ρ s).bind fun x s => (ev G b ρ s).bind fun y s => match x.look s, y with
      | some (.tup xs), .t (.int i) => .of ((ixD xs i).map .t) s
      | some (.lst xs), .t (.int i) => .of ((ixD xs i).map .t) s
      | _, _ => .bad
  | .sl a lo hi, ρ, s => (ev G a ρ s).bind fun x s => (evO G lo ρ s).bind fun lo s => (evO G hi ρ s).bind fun hi s =>
      .of ((x.look s).bind fun d => slice d lo hi) s
  | .call f es, ρ, s => (evl G es ρ s).bind fun bs s => callS (G.fn f) bs s
  | .b1 f a, ρ, s => (ev G a ρ s).bind fun x s => .of ((x.look s).bind (bi1 f)) s
  | .b2 f a b, ρ, s => (ev G a ρ s).bind fun x s => (ev G b ρ s).bind fun y s => .of ((x.peek s).bind fun x => (y.peek s).bind (bi2 f x)) s
  | .comp kind its tg own conds elt, ρ, s => (evl G its ρ s).bind fun bs s =>
      match (seens bs).bind (walk kind) with
      | none => .bad
      | some xs => (compL (fun x s => match bindT tg x (wipe ρ own) with
          | none => .bad
          | some ρ' => (evConds G conds ρ' s).bind fun k s => if k then (ev G elt ρ' s).bind fun b s => .of (b.frz.map some) s else .ok none s) xs [] s).bind fun ys s => .ok (.own (.lst ys)) s
def evl (G : Gx) : List CE → Env → Store → R (List B)
  | [], _, s => .ok [] s
  | e :: es, ρ, s => (ev G e ρ s).bind fun x s => (evl G es ρ s).bind fun xs s => .ok (x.still :: xs) s
def evs (G : Gx) : List (Bool × CE) → Env → Store → R (List D)
  | [], _, s => .ok [] s
  | (st, e) :: es, ρ, s => (ev G e ρ s).bind fun x s => match st with
      | false => match x.frz with
        | some d => (evs G es ρ s).bind fun xs s => .ok (d :: xs) s
        | none => .bad
      | true => match (x.look s).bind itemsD with
        | some ds => (evs G es ρ s).bind fun xs s => .ok (ds ++ xs) s
        | none => .bad
def evO (G : Gx) : Option CE → Env → Store → R (Option Int)
  | none, _, s => .ok none s
  | some e, ρ, s => (ev G e ρ s).bind fun x s => match x with
      | .t (.int i) => .ok (some i) s
      | _ => .bad
def evAnd (G : Gx) : List CE → Env → Store → R B
  | [], _, _ => .bad
  | [e], ρ, s => ev G e ρ s
  | e :: es, ρ, s => (ev G e ρ s).bind fun x s => match truB x s with
      | some true => evAnd G es ρ s
      | some false => .ok x s
      | none => .bad
def evOr (G : Gx) : List CE → Env → Store → R B
  | [], _, _ => .bad
  | [e], ρ, s => ev G e ρ s
  | e :: es, ρ, s => (ev G e ρ s).bind fun x s => match truB x s with
      | some false => evOr G es ρ s
      | some true => .ok x s
      | none => .bad
def evConds (G : Gx) : List CE → Env → Store → R Bool
  | [], _, s => .ok true s
  | e :: es, ρ, s => (ev G e ρ s).bind fun x s => match truB x s with
      | some true => evConds G es ρ s
      | some false => .ok false s
      | none => .bad
end
/-- one turn of a comprehension -/
def turnC (G : Gx) (tg : Tg) (own : List Nat) (conds : List CE) (elt : CE) (ρ : Env) (x : D) (s : Store) : R (Option D) := match bindT tg x (wipe ρ own) with
  | none => .bad
  | some ρ' => (evConds G conds ρ' s).bind fun k s => if k then (ev G elt ρ' s).bind fun b s => .of (b.frz.map some) s else .ok none s
/-- the right sides of a, b = x, y -/
def evg (G : Gx) : List CE → Env → Store → R (List B)
  | [], _, s => .ok [] s
  | e :: es, ρ, s => (ev G e ρ s).bind fun x s => (evg G es ρ s).bind fun xs s => .ok (x :: xs) s
/-- a test -/
def evT (G : Gx) (e : CE) (ρ : Env) (s : Store) : R Bool := (ev G e ρ s).bind fun x s => .of (truB x s) s
/-! ### statements -/
inductive CS where
  | pass
  | never
  | expr (e : CE)
  | asg (i : Nat) (e : CE)
  | asgT (t : Tg) (e : CE)
  | par (is : List Nat) (es : List CE)
  | aug (i : Nat) (op : Op2) (e : CE)
  | setIx (i : Nat) (ix e : CE)
  | app (i : Nat) (e : CE)
  | ext (i : Nat) (e : CE)
  | ret (e : CE)
  | retN
  | ite (c : CE) (a b : List CS)
  | for_ (cutS : Bool) (kind : Nat) (its : List CE) (tg : Tg) (body : List CS)
  | while_ (c : CE) (body : List CS)
  | brk
  | cont
  /-- an owned list is known to stand still from here on -/
  | frz (i : Nat)
  /-- an owned list goes to the store -/
  | mv (i : Nat)
def still (ρ : Env) : Env := ρ.map fun o => o.map B.still
/-- places of the store from n on are forgotten -/
def B.below (n : Nat) : B → Option B
  | .r k => if k < n then some (.r k) else none
  | b => some b
def cutE (n : Nat) (ρ : Env) : Env := ρ.map fun o => o.bind (B.below n)
def cutAt (c : Bool) (n : Nat) (f : Env → Store → RS) (ρ : Env) (s : Store) : RS := if c then f (cutE n ρ) (s.take n) else f ρ s
def forL (c : Bool) (n : Nat) (f : D → Env → Store → RS) : List D → Env → Store → RS
  | [], ρ, s => .nx ρ s
  | x :: xs, ρ, s => match f x ρ s with
    | .nx ρ' s' => cutAt c n (forL c n f xs) ρ' s'
    | .ct ρ' s' => cutAt c n (forL c n f xs) ρ' s'
    | .bk ρ' s' => .nx ρ' s'
    | r => r
def whileL (c : Env → Store → R Bool) (f : Env → Store → RS) : Nat → Env → Store → RS
  | 0, _, _ => .bad
  | n + 1, ρ, s => (c ρ s).to ρ fun k s => if k then match f ρ s with
      | .nx ρ' s' => whileL c f n ρ' s'
      | .ct ρ' s' => whileL c f n ρ' s'
      | .bk ρ' s' => .nx ρ' s'
      | r => r
    else .nx ρ s
def setAll : List Nat → List B → Env → Env
  | i :: is, b :: bs, ρ => setAll is bs (ρ.set i (some b))
  | _, _, ρ => ρ
def gives : List B → Option (List B)
  | [] => some []
  | b :: r => b.give.bind fun d => (gives r).map (d :: ·)
/-- the list at a slot, what is behind a change of it -/
def lstAt (i : Nat) (ρ : Env) (s : Store) : Option (List D) := match ρ[i]? with
  | some (some (.own (.lst xs))) => some xs
  | some (some (.r k)) => match s[k]? with
    | some (.lst xs) => some xs
    | none => none
  | _ => none
def lstPut (i : Nat) (xs : List D) (ρ : Env) (s : Store) : RS := match ρ[i]? with
  | some (some (.own _)) => .nx (ρ.set i (some (.own (.lst xs)))) s
  | some (some (.r k)) => .nx ρ (s.set k (.lst xs))
  | _ => .bad
def steps : Nat := 1000000000
mutual
def exec (G : Gx) : CS → Env → Store → RS
  | .pass, ρ, s => .nx ρ s
  | .never, _, _ => .bad
  | .expr e, ρ, s => (ev G e ρ s).to ρ fun _ s => .nx ρ s
  | .asg i e, ρ, s => (ev G e ρ s).to ρ fun b s => match b.give with
      | some b => .nx (ρ.set i (some b)) s
      | none => .bad
  | .asgT t e, ρ, s => (ev G e ρ s).to ρ fun b s => match b.frz.bind fun d => bindT t d ρ with
      | some ρ' => .nx ρ' s
      | none => .bad
  | .par is es, ρ, s => (evg G es ρ s).to ρ fun bs s => match gives bs with
      | some bs => if bs.length = is.length then .nx (setAll is bs ρ) s else .bad
      | none => .bad
  | .aug i op e, ρ, s => match ρ[i]? with
      | some (some (.t x)) => (ev G e ρ s).to ρ fun y s => match (y.peek s).bind (op2 op x) with
        | some (.t (.int z)) => .nx (ρ.set i (some (.t (.int z)))) s
        | _ => .bad
      | _ => .bad
  | .setIx i ix e, ρ, s => (ev G e ρ s).to ρ fun y s => match y.frz, lstAt i ρ s with
      | some d, some _ => (ev G ix ρ s).to ρ fun k s => match k, lstAt i ρ s with
        | .t (.int k), some xs => match ixN xs.length k with
          | some j => lstPut i (xs.set j d) ρ s
          | none => .bad
        | _, _ => .bad
      | _, _ => .bad
  | .app i e, ρ, s => match lstAt i ρ s with
      | none => .bad
      | some _ => (ev G e ρ s).to ρ fun y s => match y.frz, lstAt i ρ s with
        | some d, some xs => if xs.length < line then lstPut i (xs ++ [d]) ρ s else .bad
        | _, _ => .bad
  | .ext i e, ρ, s => match lstAt i ρ s with
      | none => .bad
      | some _ => (ev G e ρ s).to ρ fun y s => match y.peek s, lstAt i ρ s with
        | some (.lst ys), some xs => if xs.length + ys.length ≤ line then lstPut i (xs ++ ys) ρ s else .bad
        | _, _ => .bad
  | .ret e, ρ, s => match e with
      | .var i => match ρ[i]? with
        | some (some b) => match b.give with
          | some b => .rt b s
          | none => .bad
        | _ => .bad
      | e => (ev G e (still ρ) s).to (still ρ) fun b s => match b.give with
        | some b => .rt b s
        | none => .bad
  | .retN, _, s => .rt (.t .non) s
  | .ite c a b, ρ, s => (evT G c ρ s).to ρ fun k s => if k then execs G a ρ s else execs G b ρ s
  | .for_ cs kind its tg body, ρ, s => (evl G its ρ s).to ρ fun bs s =>
      match (frzs bs).bind (walk kind) with
      | none => .bad
      | some xs => forL cs s.length (fun x ρ s => match bindT tg x ρ with
          | none => .bad
          | some ρ => execs G body ρ s) xs ρ s
  | .while_ c body, ρ, s => whileL (evT G c) (execs G body) steps ρ s
  | .brk, ρ, s => .bk ρ s
  | .cont, ρ, s => .ct ρ s
  | .frz i, ρ, s => match ρ[i]? with
      | some (some b) => .nx (ρ.set i (some b.still)) s
      | _ => .bad
  | .mv i, ρ, s => match ρ[i]? with
      | some (some (.own (.lst xs))) => .nx (ρ.set i (some (.r s.length))) (s ++ [.lst xs])
      | _ => .bad
def execs (G : Gx) : List CS → Env → Store → RS
  | [], ρ, s => .nx ρ s
  | c :: cs, ρ, s => match exec G c ρ s with
    | .nx ρ' s' => execs G cs ρ' s'
    | r => r
end
/-! ### defs -/
structure Fn where
  params : Nat
  slots : Nat
  body : List CS
/-- what a parameter holds -/
def B.par : B → B
  | .own d => .bor d
  | b => b
def enter (f : Fn) (args : List B) : Env := (args.map fun b => some b.par) ++ List.replicate (f.slots - f.params) none
def runF (G : Gx) (f : Fn) (args : List B) (s : Store) : R B := if args.length = f.params then match execs G f.body (enter f args) s with
    | .nx _ s' => .ok (.t .non) (s'.take s.length)
    | .rt b s' => .ok b (s'.take s.length)
    | .ex c p _ s' => .ex c p (s'.take s.length)
    | _ => .bad
  else .bad
/-- the module: its constants, its functions; n: how deep calls may go -/
structure Md where
  gcs : List D
  fns : List Fn
def Md.call (M : Md) : Nat → Nat → List B → Store → R B
  | 0, _, _, _ => .bad
  | n + 1, i, args, s => match M.fns[i]? with
    | some f => runF ⟨M.call n, fun g => M.gcs[g]?⟩ f args s
    | none => .bad
end Zw
set_option Elab.async false
set_option linter.all false
set_option maxRecDepth 100000
/-! Zw1: how trees and the store lie in the heap of the hand layer. -/
namespace Zw
open PySem PySem.Spec PyProof.Rows L2
/-! ### trees in the heap -/
mutual
inductive Rp (K : PySem.W.Frag) (F : Hp) : V → D → Prop
  | non : Rp K F .non .non
  | bl (b : Bool) : Rp K F (.bl b) (.bl b)
  | int (i : Int) : Rp K F (.int i) (.int i)
  | str (x : Str) : Rp K F (.str x) (.str x)
  | tup {a : Addr} {xs : List V} {ds : List D} : SqT K F a xs → RpL K F xs ds → Rp K F (.ref a) (.tup ds)
  | lst {a : Addr} {xs : List V} {ds : List D} : F a = some (.lst xs) → RpL K F xs ds → Rp K F (.ref a) (.lst ds)
inductive RpL (K : PySem.W.Frag) (F : Hp) : List V → List D → Prop
  | nil : RpL K F [] []
  | cons {v : V} {vs : List V} {d : D} {ds : List D} : Rp K F v d → RpL K F vs ds → RpL K F (v :: vs) (d :: ds)
end
section
variable {K : PySem.W.Frag} {F F' : Hp}
mutual
theorem Rp.mono (e : Same F F') : ∀ {v : V} {d : D}, Rp K F v d → Rp K F' v d
  | _, _, .non => .non
  | _, _, .bl b => .bl b
  | _, _, .int i => .int i
  | _, _, .str x => .str x
  | _, _, .tup h r => .tup (by
      rcases h with (h | ⟨o, h⟩) | h
      · exact .inl (.inl (e _ _ h))
      · exact .inl (.inr ⟨o, e _ _ h⟩)
      · exact .inr h) (RpL.mono e r)
  | _, _, .lst h r => .lst (e _ _ h) (RpL.mono e r)
theorem RpL.mono (e : Same F F') : ∀ {vs : List V} {ds : List D}, RpL K F vs ds → RpL K F' vs ds
  | _, _, .nil => .nil
  | _, _, .cons h r => .cons (Rp.mono e h) (RpL.mono e r)
end
theorem RpL.length : ∀ {vs : List V} {ds : List D}, RpL K F vs ds → vs.length = ds.length
  | _, _, .nil => rfl
  | _, _, .cons _ r => by simp [RpL.length r]
theorem RpL.append : ∀ {vs ws : List V} {ds es : List D}, RpL K F vs ds → RpL K F ws es → RpL K F (vs ++ ws) (ds ++ es)
  | _, _, _, _, .nil, r => r
  | _, _, _, _, .cons h t, r => .cons h (RpL.append t r)
theorem RpL.get : ∀ {vs : List V} {ds : List D} {i : Nat} {d : D}, RpL K F vs ds → ds[i]? = some d → ∃ v, vs[i]? = some v ∧ Rp K F v d
  | _, _, _, _, .nil, e => by simp at e
  | _, _, 0, _, .cons h _, e => by simp at e; subst e; exact ⟨_, rfl, h⟩
  | _, _, i + 1, _, .cons _ r, e => by
    obtain ⟨v, h1, h2⟩ := RpL.get (i := i) r (by simpa using e)
    exact ⟨v, by simpa using h1, h2⟩
theorem RpL.set {v : V} {d : D} (h : Rp K F v d) : ∀ {vs : List V} {ds : List D} (i : Nat), RpL K F vs ds → RpL K F (vs.set i v) (ds.set i d)
  | _, _, _, .nil => .nil
  | _, _, 0, .cons _ r => .cons h r
  | _, _, i + 1, .cons q r => .cons q (RpL.set h i r)
theorem RpL.take : ∀ {vs : List V} {ds : List D} (n : Nat), RpL K F vs ds → RpL K F (vs.take n) (ds.take n)
  | _, _, 0, _ => by simpa using RpL.nil
  | _, _, _ + 1, .nil => by simpa using RpL.nil
  | _, _, n + 1, .cons h r => by simpa using RpL.cons h (RpL.take n r)
theorem RpL.drop : ∀ {vs : List V} {ds : List D} (n : Nat), RpL K F vs ds → RpL K F (vs.drop n) (ds.drop n)
  | _, _, 0, r => r
  | _, _, _ + 1, .nil => .nil
  | _, _, n + 1, .cons _ r => by simpa using RpL.drop n r
theorem RpL.rep {vs : List V} {ds : List D} (h : RpL K F vs ds) : ∀ n : Nat, RpL K F (List.replicate n vs).flatten (List.replicate n ds).flatten
  | 0 => .nil
  | n + 1 => by
    rw [List.replicate_succ, List.replicate_succ]
    exact RpL.append h (RpL.rep h n)
theorem RpL.nil_iff {vs : List V} {ds : List D} (h : RpL K F vs ds) : vs = [] ↔ ds = [] := by
  cases h with
  | nil => simp
  | cons => simp
theorem RpL.split : ∀ {vs : List V} {ds es : List D}, RpL K F vs (ds ++ es) → ∃ a b, vs = a ++ b ∧ RpL K F a ds ∧ RpL K F b es
  | vs, [], es, h => ⟨[], vs, rfl, .nil, h⟩
  | _, d :: ds, es, .cons h r => by
    obtain ⟨a, b, e, h1, h2⟩ := RpL.split r
    exact ⟨_ :: a, b, by rw [e]; rfl, .cons h h1, h2⟩
theorem rp_int {v : V} {i : Int} (h : Rp K F v (.int i)) : v = .int i := by cases h; rfl
theorem rp_bl {v : V} {b : Bool} (h : Rp K F v (.bl b)) : v = .bl b := by cases h; rfl
theorem rp_str {v : V} {x : Str} (h : Rp K F v (.str x)) : v = .str x := by cases h; rfl
theorem rp_non {v : V} (h : Rp K F v .non) : v = .non := by cases h; rfl
end
/-! ### the state -/
/-- no table of code objects -/
abbrev NT (o : HO) : Prop := ∀ ps, o ≠ .tbl ps
structure Rel (K : PySem.W.Frag) (F : Hp) (μ : List Addr) (S : Store) (H : Hp) : Prop where
  sub : Same F H
  len : μ.length = S.length
  nd : μ.Nodup
  obj : ∀ (k : Nat) (a : Addr) (xs : List D), μ[k]? = some a → S[k]? = some (.lst xs) → ∃ vs, H a = some (.lst vs) ∧ RpL K F vs xs
  dis : ∀ a ∈ μ, F a = none
/-- what evaluation leaves -/
structure Ext (μ : List Addr) (F H F' H' : Hp) : Prop where
  fs : Same F F'
  fn : ∀ a, H a ≠ none → F' a = F a
  keep : ∀ a o, H a = some o → NT o → a ∉ μ → H' a = some o
  live : ∀ a, H a ≠ none → H' a ≠ none
theorem Ext.refl (μ : List Addr) (F H : Hp) : Ext μ F H F H := ⟨fun _ _ h => h, fun _ _ => rfl, fun _ _ h _ _ => h, fun _ h => h⟩
theorem Ext.trans {μ : List Addr} {F H F1 H1 F2 H2 : Hp} (x : Ext μ F H F1 H1) (y : Ext μ F1 H1 F2 H2) : Ext μ F H F2 H2 :=
  ⟨fun a o h => y.fs a o (x.fs a o h), fun a h => (y.fn a (x.live a h)).trans (x.fn a h), fun a o h n m => y.keep a o (x.keep a o h n m) n m, fun a h => y.live a (x.live a h)⟩
/-- own and borrowed lists -/
def OwnAt (K : PySem.W.Frag) (F : Hp) (μ : List Addr) (H : Hp) (v : V) (d : D) : Prop :=
  ∃ a xs ds, v = .ref a ∧ d = .lst ds ∧ H a = some (.lst xs) ∧ RpL K F xs ds ∧ F a = none ∧ a ∉ μ
/-- a list that nobody changes: the script, a list of the module -/
def ScAt (K : PySem.W.Frag) (μ : List Addr) (H : Hp) (a : Addr) (xs : List V) : Prop := (∃ o, H a = some (.frz o (.lst xs)) ∧ a ∉ μ) ∨
  ∃ (o : Obj) (its : Array Value) (n : Nat), K.lookup a = some o ∧ o.cls = .type "list" ∧ o.dict = none ∧ o.data = .seq its n ∧ its.size ≤ sizeLine ∧ Vals xs its.toList
theorem ScAt.sq {K : PySem.W.Frag} {μ : List Addr} {H : Hp} {a : Addr} {xs : List V} (h : ScAt K μ H a xs) : SqL K H a xs := h.elim (fun ⟨o, h, _⟩ => .inl (.inr ⟨o, h⟩)) .inr
theorem ScAt.to {K : PySem.W.Frag} {μ μ' : List Addr} {H H' : Hp} {a : Addr} {xs : List V} (h : ScAt K μ H a xs) (k : ∀ o, H a = some (.frz o (.lst xs)) → a ∉ μ → H' a = some (.frz o (.lst xs)) ∧ a ∉ μ') : ScAt K μ' H' a xs :=
  h.elim (fun ⟨o, h, m⟩ => .inl ⟨o, k o h m⟩) .inr
def BRp (K : PySem.W.Frag) (F : Hp) (μ : List Addr) (H : Hp) (v : V) : B → Prop
  | .t d => Rp K F v d
  | .own d => OwnAt K F μ H v d
  | .bor d => OwnAt K F μ H v d
  | .sc d => ∃ a xs ds, v = .ref a ∧ d = .lst ds ∧ ScAt K μ H a xs ∧ RpL K F xs ds
  | .r k => ∃ a, v = .ref a ∧ μ[k]? = some a
structure ER (K : PySem.W.Frag) (F : Hp) (μ : List Addr) (H : Hp) (ρ : Env) (σ : L2.St) : Prop where
  len : ρ.length = σ.length
  val : ∀ (i : Nat) (b : B), ρ[i]? = some (some b) → ∃ v, σ[i]? = some (some v) ∧ BRp K F μ H v b
  sep : ∀ (i j : Nat) (d d' : D) (a : Addr), i ≠ j → ρ[i]? = some (some (.own d)) → (ρ[j]? = some (some (.own d')) ∨ ρ[j]? = some (some (.bor d'))) →
    σ[i]? = some (some (.ref a)) → σ[j]? ≠ some (some (.ref a))
section
variable {K : PySem.W.Frag} {F F' F1 : Hp} {μ : List Addr} {H H' H1 : Hp} {ρ : Env} {σ : L2.St} {v : V} {b : B}
theorem OwnAt.step {d : D} (x : Ext μ F H F' H') (h : OwnAt K F μ H v d) : OwnAt K F' μ H' v d := by
  obtain ⟨a, xs, ds, e, ed, ha, r, n, m⟩ := h
  exact ⟨a, xs, ds, e, ed, x.keep a _ ha (fun _ z => by cases z) m, r.mono x.fs, by rw [x.fn a (by rw [ha]; intro z; cases z)]; exact n, m⟩
theorem BRp.step (x : Ext μ F H F' H') (h : BRp K F μ H v b) : BRp K F' μ H' v b := by
  cases b with
  | t d => exact Rp.mono x.fs h
  | own d => exact OwnAt.step x h
  | bor d => exact OwnAt.step x h
  | sc d =>
    obtain ⟨a, xs, ds, e, ed, ha, r⟩ := h
    exact ⟨a, xs, ds, e, ed, ha.to fun o e m => ⟨x.keep a _ e (fun _ z => by cases z) m, m⟩, r.mono x.fs⟩
  | r k => exact h
theorem ER.step (x : Ext μ F H F' H') (h : ER K F μ H ρ σ) : ER K F' μ H' ρ σ :=
  ⟨h.len, fun i b e => let ⟨v, h1, h2⟩ := h.val i b e; ⟨v, h1, h2.step x⟩, h.sep⟩
/-- a fresh list -/
def Fresh (H : Hp) (v : V) : B → Prop
  | .own _ => ∀ a, v = .ref a → H a = none
  | _ => True
theorem Fresh.back (x : Ext μ F H F1 H1) (h : Fresh H1 v b) : Fresh H v b := by
  cases b with
  | own d =>
    intro a e
    cases q : H a with
    | none => rfl
    | some o => exact absurd (h a e) (x.live a (by rw [q]; intro z; cases z))
  | t _ => trivial
  | bor _ => trivial
  | sc _ => trivial
  | r _ => trivial
end
/-! ### exceptions -/
/-- the class numbered c: its object's value, the attribute that it keeps -/
structure XCls where
  cls : Value
  attr : Option Str
/-- how an exception of the class lies in the heap -/
def XR (K : PySem.W.Frag) (xc : Nat → Option XCls) (F H : Hp) (c : Nat) (p : List D) (cls : Value) (d : Option Addr) : Prop :=
  ∃ x, xc c = some x ∧ cls = x.cls ∧ match x.attr, p with
    | none, [] => True
    | some f, [q] => ∃ dd v, d = some dd ∧ H dd = some (.xd [(f, v)]) ∧ Rp K F v q
    | _, _ => False
/-! ### what is wanted of a result -/
section
variable (K : PySem.W.Frag) (xc : Nat → Option XCls) (μ : List Addr) (W : WX)
def okE (F H : Hp) (σ : L2.St) (r : R B) (Q : V → Hp → Prop) : Prop := match r with
  | .ok b S' => ∀ F' H' v, Ext μ F H F' H' → Rel K F' μ S' H' → BRp K F' μ H' v b → Fresh H v b → Q v H'
  | .ex c p S' => ∀ F' H' cls d, Ext μ F H F' H' → Rel K F' μ S' H' → XR K xc F' H' c p cls d → W cls d σ H'
  | .bad => False
/-- the same, the whole state told -/
def okS {α : Type} (F H : Hp) (σ : L2.St) (r : R α) (Q : α → Store → Hp → Hp → Prop) : Prop := match r with
  | .ok b S' => Q b S' F H
  | .ex c p S' => ∀ F' H' cls d, Ext μ F H F' H' → Rel K F' μ S' H' → XR K xc F' H' c p cls d → W cls d σ H'
  | .bad => False
end
section
variable {K : PySem.W.Frag} {xc : Nat → Option XCls} {μ : List Addr} {W : WX} {F H F1 H1 : Hp} {σ : L2.St}
theorem okE.step {r : R B} {Q : V → Hp → Prop} (x : Ext μ F H F1 H1) (h : okE K xc μ W F H σ r Q) : okE K xc μ W F1 H1 σ r Q := by
  cases r with
  | ok b S' => exact fun F' H' v e r q f => h F' H' v (x.trans e) r q (f.back x)
  | ex c p S' => exact fun F' H' cls d e r q => h F' H' cls d (x.trans e) r q
  | bad => exact h
end
/-- an expression's reading by what the interpreter makes of it -/
def tM (K : PySem.W.Frag) (xc : Nat → Option XCls) (W : WX) (m : Env → Store → R B) : TE := fun σ H Q =>
  ∃ F μ S ρ, Rel K F μ S H ∧ ER K F μ H ρ σ ∧ okE K xc μ W F H σ (m ρ S) Q
/-- a list of values -/
inductive BRs (K : PySem.W.Frag) (F : Hp) (μ : List Addr) (H : Hp) : List V → List B → Prop
  | nil : BRs K F μ H [] []
  | cons {v : V} {vs : List V} {b : B} {bs : List B} : BRp K F μ H v b → BRs K F μ H vs bs → BRs K F μ H (v :: vs) (b :: bs)
theorem BRs.step {K : PySem.W.Frag} {F F' : Hp} {μ : List Addr} {H H' : Hp} (x : Ext μ F H F' H') : ∀ {vs : List V} {bs : List B}, BRs K F μ H vs bs → BRs K F' μ H' vs bs
  | _, _, .nil => .nil
  | _, _, .cons h r => .cons (h.step x) (BRs.step x r)
theorem BRs.length {K : PySem.W.Frag} {F : Hp} {μ : List Addr} {H : Hp} : ∀ {vs : List V} {bs : List B}, BRs K F μ H vs bs → vs.length = bs.length
  | _, _, .nil => rfl
  | _, _, .cons _ r => by simp [BRs.length r]
def okL (K : PySem.W.Frag) (xc : Nat → Option XCls) (μ : List Addr) (W : WX) (F H : Hp) (σ : L2.St) (r : R (List B)) (Q : List V → Hp → Prop) : Prop := match r with
  | .ok bs S' => ∀ F' H' vs, Ext μ F H F' H' → Rel K F' μ S' H' → BRs K F' μ H' vs bs → Q vs H'
  | .ex c p S' => ∀ F' H' cls d, Ext μ F H F' H' → Rel K F' μ S' H' → XR K xc F' H' c p cls d → W cls d σ H'
  | .bad => False
def tML (K : PySem.W.Frag) (xc : Nat → Option XCls) (W : WX) (m : Env → Store → R (List B)) : TA := fun σ H Q =>
  ∃ F μ S ρ, Rel K F μ S H ∧ ER K F μ H ρ σ ∧ okL K xc μ W F H σ (m ρ S) Q
/-- the items of a display: trees alone -/
def okD (K : PySem.W.Frag) (xc : Nat → Option XCls) (μ : List Addr) (W : WX) (F H : Hp) (σ : L2.St) (r : R (List D)) (Q : List V → Hp → Prop) : Prop := match r with
  | .ok ds S' => ∀ F' H' vs, Ext μ F H F' H' → Rel K F' μ S' H' → RpL K F' vs ds → Q vs H'
  | .ex c p S' => ∀ F' H' cls d, Ext μ F H F' H' → Rel K F' μ S' H' → XR K xc F' H' c p cls d → W cls d σ H'
  | .bad => False
def tMD (K : PySem.W.Frag) (xc : Nat → Option XCls) (W : WX) (m : Env → Store → R (List D)) : TA := fun σ H Q =>
  ∃ F μ S ρ, Rel K F μ S H ∧ ER K F μ H ρ σ ∧ okD K xc μ W F H σ (m ρ S) Q
def okT (K : PySem.W.Frag) (xc : Nat → Option XCls) (μ : List Addr) (W : WX) (F H : Hp) (σ : L2.St) (r : R Bool) (Q : Bool → Hp → Prop) : Prop := match r with
  | .ok k S' => ∀ F' H', Ext μ F H F' H' → Rel K F' μ S' H' → Q k H'
  | .ex c p S' => ∀ F' H' cls d, Ext μ F H F' H' → Rel K F' μ S' H' → XR K xc F' H' c p cls d → W cls d σ H'
  | .bad => False
def tMT (K : PySem.W.Frag) (xc : Nat → Option XCls) (W : WX) (m : Env → Store → R Bool) : TT := fun σ H Q =>
  ∃ F μ S ρ, Rel K F μ S H ∧ ER K F μ H ρ σ ∧ okT K xc μ W F H σ (m ρ S) Q
theorem PE.weak {X : Cx} {e : Expr} {t t' : TE} (h : PE X e t) (w : ∀ σ H Q, t' σ H Q → t σ H Q) : PE X e t' := ⟨fun pins s σ H Q I q => h.run pins s σ H Q I (w σ H Q q)⟩
theorem PT.weak {X : Cx} {e : Expr} {t t' : TT} (h : PT X e t) (w : ∀ σ H Q, t' σ H Q → t σ H Q) : PT X e t' := ⟨fun pins s σ H Q I q => h.run pins s σ H Q I (w σ H Q q)⟩
theorem PW.weak {X : Cx} {e : Expr} {t t' : TT} (h : PW X e t) (w : ∀ σ H Q, t' σ H Q → t σ H Q) : PW X e t' := ⟨fun wh pins s σ H Q I q => h.run wh pins s σ H Q I (w σ H Q q)⟩
theorem PA.weak {X : Cx} {es : List Expr} {t t' : TA} (h : PA X es t) (w : ∀ σ H Q, t' σ H Q → t σ H Q) : PA X es t' := ⟨fun pos pins s σ H Q I q => h.run pos pins s σ H Q I (w σ H Q q)⟩
theorem PS.weak {X : Cx} {st : Stmt} {t t' : TS} (h : PS X st t) (w : ∀ D σ H, t' D σ H → t D σ H) : PS X st t' := ⟨fun pins s σ H D I q => h.run pins s σ H D I (w D σ H q)⟩
theorem PSs.weak {X : Cx} {st : List Stmt} {t t' : TS} (h : PSs X st t) (w : ∀ D σ H, t' D σ H → t D σ H) : PSs X st t' := ⟨fun pins s σ H D I q => h.run pins s σ H D I (w D σ H q)⟩
/-! ### one after another -/
section
variable {K : PySem.W.Frag} {xc : Nat → Option XCls} {W : WX} {σ : L2.St} {H F : Hp} {μ : List Addr}
theorem okE_bind {r : R B} {g : B → Store → R B} {Q R' : VK} (h : okE K xc μ W F H σ (r.bind g) Q)
    (k : ∀ F1 H1 v b S1, Ext μ F H F1 H1 → Rel K F1 μ S1 H1 → BRp K F1 μ H1 v b → Fresh H v b → okE K xc μ W F1 H1 σ (g b S1) Q → R' v H1) : okE K xc μ W F H σ r R' := by
  cases r with
  | ok b S1 => exact fun F1 H1 v x r1 bv fr => k F1 H1 v b S1 x r1 bv fr (okE.step x h)
  | ex c p S1 => exact h
  | bad => exact h
theorem okE_bind0 {r : R B} {g : B → Store → R B} {Q R' : VK} (h : okE K xc μ W F H σ (r.bind g) Q)
    (k : ∀ F1 H1 v b S1, Ext μ F H F1 H1 → Rel K F1 μ S1 H1 → BRp K F1 μ H1 v b → Fresh H v b → okE K xc μ W F H σ (g b S1) Q → R' v H1) : okE K xc μ W F H σ r R' := by
  cases r with
  | ok b S1 => exact fun F1 H1 v x r1 bv fr => k F1 H1 v b S1 x r1 bv fr h
  | ex c p S1 => exact h
  | bad => exact h
theorem okE_bindD {r : R B} {g : B → Store → R (List D)} {Q : List V → Hp → Prop} {R' : VK} (h : okD K xc μ W F H σ (r.bind g) Q)
    (k : ∀ F1 H1 v b S1, Ext μ F H F1 H1 → Rel K F1 μ S1 H1 → BRp K F1 μ H1 v b → Fresh H v b → okD K xc μ W F1 H1 σ (g b S1) Q → R' v H1) : okE K xc μ W F H σ r R' := by
  cases r with
  | ok b S1 =>
    refine fun F1 H1 v x r1 bv fr => k F1 H1 v b S1 x r1 bv fr ?_
    have h2 : okD K xc μ W F H σ (g b S1) Q := h
    cases q : g b S1 with
    | ok ds S2 => rw [q] at h2; exact fun F' H' vs e r q => h2 F' H' vs (x.trans e) r q
    | ex c p S2 => rw [q] at h2; exact fun F' H' cls d e r q => h2 F' H' cls d (x.trans e) r q
    | bad => rw [q] at h2; exact h2
  | ex c p S1 => exact h
  | bad => exact h
theorem okE_bindL {r : R B} {g : B → Store → R (List B)} {Q : List V → Hp → Prop} {R' : VK} (h : okL K xc μ W F H σ (r.bind g) Q)
    (k : ∀ F1 H1 v b S1, Ext μ F H F1 H1 → Rel K F1 μ S1 H1 → BRp K F1 μ H1 v b → Fresh H v b → okL K xc μ W F1 H1 σ (g b S1) Q → R' v H1) : okE K xc μ W F H σ r R' := by
  cases r with
  | ok b S1 =>
    refine fun F1 H1 v x r1 bv fr => k F1 H1 v b S1 x r1 bv fr ?_
    have h2 : okL K xc μ W F H σ (g b S1) Q := h
    cases q : g b S1 with
    | ok ds S2 => rw [q] at h2; exact fun F' H' vs e r q => h2 F' H' vs (x.trans e) r q
    | ex c p S2 => rw [q] at h2; exact fun F' H' cls d e r q => h2 F' H' cls d (x.trans e) r q
    | bad => rw [q] at h2; exact h2
  | ex c p S1 => exact h
  | bad => exact h
theorem okE_bindT {r : R B} {g : B → Store → R Bool} {Q : Bool → Hp → Prop} {R' : VK} (h : okT K xc μ W F H σ (r.bind g) Q)
    (k : ∀ F1 H1 v b S1, Ext μ F H F1 H1 → Rel K F1 μ S1 H1 → BRp K F1 μ H1 v b → Fresh H v b → okT K xc μ W F1 H1 σ (g b S1) Q → R' v H1) : okE K xc μ W F H σ r R' := by
  cases r with
  | ok b S1 =>
    refine fun F1 H1 v x r1 bv fr => k F1 H1 v b S1 x r1 bv fr ?_
    have h2 : okT K xc μ W F H σ (g b S1) Q := h
    cases q : g b S1 with
    | ok ds S2 => rw [q] at h2; exact fun F' H' e r => h2 F' H' (x.trans e) r
    | ex c p S2 => rw [q] at h2; exact fun F' H' cls d e r q => h2 F' H' cls d (x.trans e) r q
    | bad => rw [q] at h2; exact h2
  | ex c p S1 => exact h
  | bad => exact h
theorem okT_bind {r : R Bool} {g : Bool → Store → R B} {Q : VK} {R' : Bool → Hp → Prop} (h : okE K xc μ W F H σ (r.bind g) Q)
    (k : ∀ F1 H1 b S1, Ext μ F H F1 H1 → Rel K F1 μ S1 H1 → okE K xc μ W F1 H1 σ (g b S1) Q → R' b H1) : okT K xc μ W F H σ r R' := by
  cases r with
  | ok b S1 => exact fun F1 H1 x r1 => k F1 H1 b S1 x r1 (okE.step x h)
  | ex c p S1 => exact h
  | bad => exact h
theorem okL_bind {r : R (List B)} {g : List B → Store → R B} {Q : VK} {R' : List V → Hp → Prop} (h : okE K xc μ W F H σ (r.bind g) Q)
    (k : ∀ F1 H1 vs bs S1, Ext μ F H F1 H1 → Rel K F1 μ S1 H1 → BRs K F1 μ H1 vs bs → okE K xc μ W F1 H1 σ (g bs S1) Q → R' vs H1) : okL K xc μ W F H σ r R' := by
  cases r with
  | ok b S1 => exact fun F1 H1 vs x r1 bv => k F1 H1 vs b S1 x r1 bv (okE.step x h)
  | ex c p S1 => exact h
  | bad => exact h
theorem okD_bind {r : R (List D)} {g : List D → Store → R B} {Q : VK} {R' : List V → Hp → Prop} (h : okE K xc μ W F H σ (r.bind g) Q)
    (k : ∀ F1 H1 vs ds S1, Ext μ F H F1 H1 → Rel K F1 μ S1 H1 → RpL K F1 vs ds → okE K xc μ W F1 H1 σ (g ds S1) Q → R' vs H1) : okD K xc μ W F H σ r R' := by
  cases r with
  | ok b S1 => exact fun F1 H1 vs x r1 bv => k F1 H1 vs b S1 x r1 bv (okE.step x h)
  | ex c p S1 => exact h
  | bad => exact h
theorem okD_bind0 {r : R (List D)} {g : List D → Store → R B} {Q : VK} {R' : List V → Hp → Prop} (h : okE K xc μ W F H σ (r.bind g) Q)
    (k : ∀ F1 H1 vs ds S1, Ext μ F H F1 H1 → Rel K F1 μ S1 H1 → RpL K F1 vs ds → okE K xc μ W F H σ (g ds S1) Q → R' vs H1) : okD K xc μ W F H σ r R' := by
  cases r with
  | ok b S1 => exact fun F1 H1 vs x r1 bv => k F1 H1 vs b S1 x r1 bv h
  | ex c p S1 => exact h
  | bad => exact h
theorem bin_rd {ma mb : Env → Store → R B} {g : B → B → Store → R B} {r : R2} {Q : VK}
    (hop : ∀ F μ S H x y bx bY (Q : VK), Rel K F μ S H → BRp K F μ H x bx → BRp K F μ H y bY → okE K xc μ W F H σ (g bx bY S) Q → r x y H Q)
    (h : tM K xc W (fun ρ s => (ma ρ s).bind fun x s => (mb ρ s).bind fun y s => g x y s) σ H Q) : tOp r (tM K xc W ma) (tM K xc W mb) σ H Q := by
  obtain ⟨F, μ, S, ρ, rel, er, h⟩ := h
  exact ⟨F, μ, S, ρ, rel, er, okE_bind h fun F1 H1 x bx S1 e1 r1 b1 f1 h1 => ⟨F1, μ, S1, ρ, r1, er.step e1, okE_bind h1 fun F2 H2 y bY S2 e2 r2 b2 f2 h2 =>
    hop F2 μ S2 H2 x y bx bY Q r2 (b1.step e2) b2 h2⟩⟩
/-- a value that needs no new object -/
theorem okE_val {S : Store} {b : B} {v : V} {Q : VK} (h : okE K xc μ W F H σ (.ok b S) Q) (r : Rel K F μ S H) (bv : BRp K F μ H v b) (f : Fresh H v b) : Q v H := h F H v (Ext.refl _ _ _) r bv f
/-- a new object at p, a tree -/
theorem Rel.new {S : Store} {p : Addr} {o : HO} (r : Rel K F μ S H) (hp : H p = none) : Rel K (upd F p o) μ S (upd H p o) := by
  have nf : ∀ a u, F a = some u → a ≠ p := fun a u e z => by rw [z] at e; rw [r.sub p u e] at hp; cases hp
  have sF : Same F (upd F p o) := fun a u e => by rw [upd_ne (nf a u e)]; exact e
  refine ⟨fun a u e => ?_, r.len, r.nd, fun k a xs e1 e2 => ?_, fun a ha => ?_⟩
  · by_cases q : a = p
    · rw [q, upd_same] at e; rw [q, upd_same]; exact e
    · rw [upd_ne q] at e; rw [upd_ne q]; exact r.sub a u e
  · obtain ⟨vs, h1, h2⟩ := r.obj k a xs e1 e2
    have q : a ≠ p := fun z => by rw [z] at h1; rw [h1] at hp; cases hp
    exact ⟨vs, by rw [upd_ne q]; exact h1, h2.mono sF⟩
  · have q : a ≠ p := fun z => by
      obtain ⟨k, hk⟩ := List.mem_iff_getElem?.mp ha
      have hl : k < S.length := by rw [← r.len]; exact (List.getElem?_eq_some_iff.mp hk).1
      have : ∃ xs, S[k]? = some (.lst xs) := by
        cases e : S[k]? with
        | none => exact absurd (List.getElem?_eq_none_iff.mp e) (by omega)
        | some o => cases o with
          | lst xs => exact ⟨xs, rfl⟩
      obtain ⟨xs, hx⟩ := this
      obtain ⟨vs, h1, _⟩ := r.obj k a xs hk hx
      rw [z] at h1; rw [h1] at hp; cases hp
    rw [upd_ne q]; exact r.dis a ha
theorem Ext.new {p : Addr} {o : HO} (s : Same F H) (hp : H p = none) : Ext μ F H (upd F p o) (upd H p o) := by
  have nf : ∀ a u, F a = some u → a ≠ p := fun a u e z => by rw [z] at e; rw [s p u e] at hp; cases hp
  have nh : ∀ a, H a ≠ none → a ≠ p := fun a e z => e (by rw [z]; exact hp)
  refine ⟨fun a u e => by rw [upd_ne (nf a u e)]; exact e, fun a e => upd_ne (nh a e), fun a u e _ _ => ?_, fun a e => ?_⟩
  · rw [upd_ne (nh a (by rw [e]; intro z; cases z))]; exact e
  · rw [upd_ne (nh a e)]; exact e
/-- a new list at p, one's own -/
theorem Rel.newOwn {S : Store} {p : Addr} {o : HO} (r : Rel K F μ S H) (hp : H p = none) : Rel K F μ S (upd H p o) := by
  refine ⟨fun a u e => ?_, r.len, r.nd, fun k a xs e1 e2 => ?_, r.dis⟩
  · have q : a ≠ p := fun z => by rw [z] at e; rw [r.sub p u e] at hp; cases hp
    rw [upd_ne q]; exact r.sub a u e
  · obtain ⟨vs, h1, h2⟩ := r.obj k a xs e1 e2
    have q : a ≠ p := fun z => by rw [z] at h1; rw [h1] at hp; cases hp
    exact ⟨vs, by rw [upd_ne q]; exact h1, h2⟩
theorem Ext.newOwn {p : Addr} {o : HO} (hp : H p = none) : Ext μ F H F (upd H p o) := by
  have nh : ∀ a, H a ≠ none → a ≠ p := fun a e z => e (by rw [z]; exact hp)
  refine ⟨fun a u e => e, fun a e => rfl, fun a u e _ _ => ?_, fun a e => ?_⟩
  · rw [upd_ne (nh a (by rw [e]; intro z; cases z))]; exact e
  · rw [upd_ne (nh a e)]; exact e
theorem Rel.out {S : Store} {p : Addr} (r : Rel K F μ S H) (hp : H p = none) : F p = none ∧ p ∉ μ := by
  constructor
  · cases e : F p with
    | none => rfl
    | some u => rw [r.sub p u e] at hp; cases hp
  · intro ha
    obtain ⟨k, hk⟩ := List.mem_iff_getElem?.mp ha
    have hl : k < S.length := by rw [← r.len]; exact (List.getElem?_eq_some_iff.mp hk).1
    cases e : S[k]? with
    | none => exact absurd (List.getElem?_eq_none_iff.mp e) (by omega)
    | some o => cases o with
      | lst xs =>
        obtain ⟨vs, h1, _⟩ := r.obj k p xs hk e
        rw [h1] at hp; cases hp
/-- a new tuple -/
theorem okE_tup {S : Store} {ds : List D} {vs : List V} {p : Addr} {Q : VK} (h : okE K xc μ W F H σ (.ok (.t (.tup ds)) S) Q) (r : Rel K F μ S H) (rs : RpL K F vs ds) (hp : H p = none) : Q (.ref p) (upd H p (.tup vs)) :=
  h _ _ _ (Ext.new r.sub hp) (r.new hp) (.tup (.inl (.inl upd_same)) (rs.mono (Ext.new (μ := μ) r.sub hp).fs)) trivial
/-- a new list -/
theorem okE_lst {S : Store} {ds : List D} {vs : List V} {p : Addr} {Q : VK} (h : okE K xc μ W F H σ (.ok (.own (.lst ds)) S) Q) (r : Rel K F μ S H) (rs : RpL K F vs ds) (hp : H p = none) : Q (.ref p) (upd H p (.lst vs)) :=
  h _ _ _ (Ext.newOwn hp) (r.newOwn hp) ⟨p, vs, ds, rfl, rfl, upd_same, rs, (r.out hp).1, (r.out hp).2⟩ fun a e => by cases e; exact hp
end
end Zw
set_option Elab.async false
set_option linter.all false
set_option maxRecDepth 100000
/-! Zw2: operators, comparisons, built-ins by what the interpreter makes of them. -/
namespace Zw
open PySem PySem.Spec PyProof.Rows L2
theorem line_eq : line = sizeLine := by decide
section
variable {K : PySem.W.Frag} {F : Hp} {μ : List Addr} {S : Store} {H : Hp} {v : V} {b : B} {ds : List D} {d : D}
/-! ### looks -/
theorem look_of_peek (h : b.peek S = some d) : b.look S = some d := by
  cases b with
  | t _ => exact h
  | own _ => exact h
  | bor _ => exact h
  | sc _ => cases h
  | r _ => exact h
theorem pk_lst (r : Rel K F μ S H) (bv : BRp K F μ H v b) (h : b.peek S = some (.lst ds)) : ∃ a xs, v = .ref a ∧ H a = some (.lst xs) ∧ RpL K F xs ds := by
  cases b with
  | t d =>
    cases h
    cases bv with
    | lst h1 h2 => exact ⟨_, _, rfl, r.sub _ _ h1, h2⟩
  | own d =>
    cases h
    obtain ⟨a, xs, es, e, ed, ha, q, _⟩ := bv
    cases ed
    exact ⟨a, xs, e, ha, q⟩
  | bor d =>
    cases h
    obtain ⟨a, xs, es, e, ed, ha, q, _⟩ := bv
    cases ed
    exact ⟨a, xs, e, ha, q⟩
  | sc d => cases h
  | r k =>
    obtain ⟨a, e, hk⟩ := bv
    have h1 : (match S[k]? with | some (.lst xs) => some (D.lst xs) | none => none) = some (.lst ds) := h
    cases q : S[k]? with
    | none => rw [q] at h1; cases h1
    | some o => cases o with
      | lst ys =>
        rw [q] at h1
        cases h1
        obtain ⟨vs, h2, h3⟩ := r.obj k a ds hk q
        exact ⟨a, vs, e, h2, h3⟩
theorem lk_lst (r : Rel K F μ S H) (bv : BRp K F μ H v b) (h : b.look S = some (.lst ds)) : ∃ a xs, v = .ref a ∧ SqL K H a xs ∧ RpL K F xs ds := by
  cases b with
  | sc d =>
    cases h
    obtain ⟨a, xs, es, e, ed, ha, q⟩ := bv
    cases ed
    exact ⟨a, xs, e, ha.sq, q⟩
  | t d => obtain ⟨a, xs, e, h1, h2⟩ := pk_lst r bv h; exact ⟨a, xs, e, SqL.of h1, h2⟩
  | own d => obtain ⟨a, xs, e, h1, h2⟩ := pk_lst r bv h; exact ⟨a, xs, e, SqL.of h1, h2⟩
  | bor d => obtain ⟨a, xs, e, h1, h2⟩ := pk_lst r bv h; exact ⟨a, xs, e, SqL.of h1, h2⟩
  | r k => obtain ⟨a, xs, e, h1, h2⟩ := pk_lst r bv h; exact ⟨a, xs, e, SqL.of h1, h2⟩
/-- what is no list is a tree -/
theorem lk_t (r : Rel K F μ S H) (bv : BRp K F μ H v b) (h : b.look S = some d) (n : ∀ ds, d ≠ .lst ds) : b = .t d ∧ Rp K F v d := by
  cases b with
  | t d' => cases h; exact ⟨rfl, bv⟩
  | own d' => cases h; obtain ⟨a, xs, es, e, ed, _⟩ := bv; exact absurd ed (n es)
  | bor d' => cases h; obtain ⟨a, xs, es, e, ed, _⟩ := bv; exact absurd ed (n es)
  | sc d' => cases h; obtain ⟨a, xs, es, e, ed, _⟩ := bv; exact absurd ed (n es)
  | r k =>
    have h1 : (match S[k]? with | some (.lst xs) => some (D.lst xs) | none => none) = some d := h
    split at h1
    · cases h1; exact absurd rfl (n _)
    · cases h1
theorem lk_tup (r : Rel K F μ S H) (bv : BRp K F μ H v b) (h : b.look S = some (.tup ds)) : ∃ a xs, v = .ref a ∧ SqT K H a xs ∧ RpL K F xs ds := by
  obtain ⟨_, q⟩ := lk_t r bv h (fun _ z => by cases z)
  cases q with
  | tup h1 h2 =>
    refine ⟨_, _, rfl, ?_, h2⟩
    rcases h1 with (h1 | ⟨o, h1⟩) | h1
    · exact .inl (.inl (r.sub _ _ h1))
    · exact .inl (.inr ⟨o, r.sub _ _ h1⟩)
    · exact .inr h1
theorem lk_int (r : Rel K F μ S H) {i : Int} (bv : BRp K F μ H v b) (h : b.look S = some (.int i)) : v = .int i := rp_int (lk_t r bv h (fun _ z => by cases z)).2
theorem lk_bl (r : Rel K F μ S H) {i : Bool} (bv : BRp K F μ H v b) (h : b.look S = some (.bl i)) : v = .bl i := rp_bl (lk_t r bv h (fun _ z => by cases z)).2
theorem lk_str (r : Rel K F μ S H) {i : Str} (bv : BRp K F μ H v b) (h : b.look S = some (.str i)) : v = .str i := rp_str (lk_t r bv h (fun _ z => by cases z)).2
theorem lk_non (r : Rel K F μ S H) (bv : BRp K F μ H v b) (h : b.look S = some .non) : v = .non := rp_non (lk_t r bv h (fun _ z => by cases z)).2
/-! ### data -/
theorem sqT_sub (s : Same F H) {a : Addr} {xs : List V} (h1 : SqT K F a xs) : SqT K H a xs := by
  rcases h1 with (h1 | ⟨o, h1⟩) | h1
  · exact .inl (.inl (s _ _ h1))
  · exact .inl (.inr ⟨o, s _ _ h1⟩)
  · exact .inr h1
mutual
theorem dp_of (s : Same F H) : ∀ {v : V} {d : D}, Rp K F v d → Dp K H v d.py
  | _, _, .non => .non
  | _, _, .bl b => .bl b
  | _, _, .int i => .int i
  | _, _, .str x => .str x
  | _, _, .tup h r => .tup (sqT_sub s h) (dps_of s r)
  | _, _, .lst h r => .lst (SqL.of (s _ _ h)) (dps_of s r)
theorem dps_of (s : Same F H) : ∀ {vs : List V} {ds : List D}, RpL K F vs ds → DpAll K H vs (D.pys ds)
  | _, _, .nil => .nil
  | _, _, .cons h r => .cons (dp_of s h) (dps_of s r)
end
theorem lk_dp (r : Rel K F μ S H) (bv : BRp K F μ H v b) (h : b.look S = some d) : Dp K H v d.py := by
  cases d with
  | lst ds =>
    obtain ⟨a, xs, e, h1, h2⟩ := lk_lst r bv h
    subst e
    exact .lst h1 (dps_of r.sub h2)
  | non => exact dp_of r.sub (lk_t r bv h (fun _ z => by cases z)).2
  | bl _ => exact dp_of r.sub (lk_t r bv h (fun _ z => by cases z)).2
  | int _ => exact dp_of r.sub (lk_t r bv h (fun _ z => by cases z)).2
  | str _ => exact dp_of r.sub (lk_t r bv h (fun _ z => by cases z)).2
  | tup _ => exact dp_of r.sub (lk_t r bv h (fun _ z => by cases z)).2
  | ins _ _ => exact dp_of r.sub (lk_t r bv h (fun _ z => by cases z)).2
theorem rpl_ints : ∀ {ds : List D} {ns : List Int} {xs : List V}, intsOf ds = some ns → RpL K F xs ds → xs = ns.map V.int
  | [], ns, xs, e, r => by
    cases e
    cases r
    rfl
  | .int i :: ds, ns, xs, e, r => by
    cases q : intsOf ds with
    | none => rw [intsOf, q] at e; cases e
    | some ms =>
      rw [intsOf, q] at e
      cases e
      cases r with
      | cons h t =>
        cases h
        rw [rpl_ints q t]
        rfl
  | .non :: _, _, _, e, _ => by cases e
  | .bl _ :: _, _, _, e, _ => by cases e
  | .str _ :: _, _, _, e, _ => by cases e
  | .tup _ :: _, _, _, e, _ => by cases e
  | .lst _ :: _, _, _, e, _ => by cases e
  | .ins _ _ :: _, _, _, e, _ => by cases e
theorem rpl_bls : ∀ {ds : List D} {ns : List Bool} {xs : List V}, blsOf ds = some ns → RpL K F xs ds → xs = ns.map V.bl
  | [], ns, xs, e, r => by
    cases e
    cases r
    rfl
  | .bl i :: ds, ns, xs, e, r => by
    cases q : blsOf ds with
    | none => rw [blsOf, q] at e; cases e
    | some ms =>
      rw [blsOf, q] at e
      cases e
      cases r with
      | cons h t =>
        cases h
        rw [rpl_bls q t]
        rfl
  | .non :: _, _, _, e, _ => by cases e
  | .int _ :: _, _, _, e, _ => by cases e
  | .str _ :: _, _, _, e, _ => by cases e
  | .tup _ :: _, _, _, e, _ => by cases e
  | .lst _ :: _, _, _, e, _ => by cases e
  | .ins _ _ :: _, _, _, e, _ => by cases e
theorem flat_rp {v : V} {d : D} (h : Rp K F v d) (f : d.flat = true) : flatV v = true := by
  cases h with
  | tup => cases f
  | lst => cases f
  | _ => rfl
theorem flats_rp : ∀ {vs : List V} {ds : List D}, RpL K F vs ds → ds.all D.flat = true → vs.all flatV = true
  | _, _, .nil, _ => rfl
  | _, _, .cons h r, f => by
    rw [List.all_cons, Bool.and_eq_true] at f
    rw [List.all_cons, Bool.and_eq_true]
    exact ⟨flat_rp h f.1, flats_rp r f.2⟩
theorem eqv_flat {v w : V} {d e : D} (h : Rp K F v d) (k : Rp K F w e) (f : d.flat = true) (g : e.flat = true) : eqV v w = PyData.eqv d.py e.py := by
  cases h with
  | tup => cases f
  | lst => cases f
  | _ => cases k with
    | tup => cases g
    | lst => cases g
    | _ => rfl
theorem in_flat {v : V} {d : D} (h : Rp K F v d) (f : d.flat = true) : ∀ {vs : List V} {ds : List D}, RpL K F vs ds → ds.all D.flat = true → inV v vs = memB d ds
  | _, _, .nil, _ => rfl
  | _, _, .cons (v := w) (vs := vs) (d := e) (ds := ds) q r, g => by
    rw [List.all_cons, Bool.and_eq_true] at g
    have ih := in_flat h f r g.2
    unfold inV memB at *
    rw [List.any_cons, List.any_cons, ih, eqv_flat q h g.1 f]
    rfl
end
section
variable {X : Cx} {K : PySem.W.Frag} {xc : Nat → Option XCls} {W : WX} {F : Hp} {μ : List Addr} {S : Store} {H : Hp} {σ : L2.St} {x y : V} {bx bY : B} {Q : VK}
/-! ### operators -/
def CPowX (i j : Int) : Prop := 0 ≤ j ∧ (Builtin.Int.intBits i : Int) * j ≤ 2 ^ 27
theorem op_powX : OpR X (binaryOp .Pow) (rI CPowX fun i j => .int (i ^ j.toNat)) := opI fun _ _ _ _ _ _ _ hc q => pow_int hc.1 hc.2 q
abbrev rAddS : R2 := fun x y H Q => ∃ i j, x = .str i ∧ y = .str j ∧ i.length + j.length ≤ sizeLine ∧ Q (.str (i ++ j)) H
abbrev rAddA (K : PySem.W.Frag) : R2 := fun x y H Q => rI0 (fun i j => .int (i + j)) x y H Q ∨ (rAddS x y H Q ∨ (rCat x y H Q ∨ rCatA K x y H Q))
theorem op_addA : OpR X (binaryOp .Add) (rAddA X.K) := op_add.or (op_add_str.or (op_cat.or op_catA))
abbrev rMulA (K : PySem.W.Frag) : R2 := fun x y H Q => rI CMulW (fun i j => .int (i * j)) x y H Q ∨ (rRep x y H Q ∨ rRepT K x y H Q)
theorem op_mulA : OpR X (binaryOp .Mult) (rMulA X.K) := op_mulW.or (op_rep.or op_repT)
/-- what an operator of the interpreter does by values -/
def g2 (op : Op2) (x y : B) (s : Store) : R B := .of ((x.peek s).bind fun x => (y.peek s).bind fun y => op2 op x y) s
def c2 (op : Cm) (x y : B) (s : Store) : R B := .of ((x.peek s).bind fun x => (y.peek s).bind fun y => (cmp2 op x y).map fun b => .t (.bl b)) s
theorem of_some {α : Type} {o : Option α} {s : Store} {F H : Hp} {σ : L2.St} {P : R α → Prop} (h : P (.of o s)) (hb : ¬ P .bad) : ∃ a, o = some a ∧ P (.ok a s) := by
  cases o with
  | none => exact absurd h hb
  | some a => exact ⟨a, rfl, h⟩
theorem g2_some {op : Op2} (h : okE K xc μ W F H σ (g2 op bx bY S) Q) : ∃ d e b, bx.peek S = some d ∧ bY.peek S = some e ∧ op2 op d e = some b ∧ okE K xc μ W F H σ (.ok b S) Q := by
  obtain ⟨b, e, h⟩ := of_some (F := F) (H := H) (σ := σ) (P := fun r => okE K xc μ W F H σ r Q) h (fun z => z)
  cases q : bx.peek S with
  | none => rw [q] at e; cases e
  | some d =>
    rw [q] at e
    cases q2 : bY.peek S with
    | none => rw [q2] at e; cases e
    | some d' => rw [q2] at e; exact ⟨d, d', b, rfl, rfl, e, h⟩
theorem c2_some {op : Cm} (h : okE K xc μ W F H σ (c2 op bx bY S) Q) : ∃ d e b, bx.peek S = some d ∧ bY.peek S = some e ∧ cmp2 op d e = some b ∧ okE K xc μ W F H σ (.ok (.t (.bl b)) S) Q := by
  obtain ⟨b, e, h⟩ := of_some (F := F) (H := H) (σ := σ) (P := fun r => okE K xc μ W F H σ r Q) h (fun z => z)
  cases q : bx.peek S with
  | none => rw [q] at e; cases e
  | some d =>
    rw [q] at e
    cases q2 : bY.peek S with
    | none => rw [q2] at e; cases e
    | some d' =>
      rw [q2] at e
      obtain ⟨k, e1, e2⟩ := Option.map_eq_some_iff.mp e
      subst e2
      exact ⟨d, d', k, rfl, rfl, e1, h⟩
theorem hop_add (r : Rel K F μ S H) (hx : BRp K F μ H x bx) (hy : BRp K F μ H y bY) (h : okE K xc μ W F H σ (g2 .add bx bY S) Q) : rAddA K x y H Q := by
  obtain ⟨d, e, b, p1, p2, e2, h⟩ := g2_some h
  have e3 : opAdd d e = some b := e2
  unfold opAdd at e3
  split at e3
  · cases e3
    rw [lk_int r hx (look_of_peek p1), lk_int r hy (look_of_peek p2)]
    exact .inl ⟨_, _, rfl, rfl, okE_val h r (.int _) trivial⟩
  · split at e3
    · cases e3
      rename_i hl
      rw [lk_str r hx (look_of_peek p1), lk_str r hy (look_of_peek p2)]
      exact .inr (.inl ⟨_, _, rfl, rfl, by rw [← line_eq]; exact hl, okE_val h r (.str _) trivial⟩)
    · cases e3
  · split at e3
    · cases e3
      rename_i hl
      obtain ⟨a, xs, ea, ha, ra⟩ := pk_lst r hx p1
      obtain ⟨c, ys, ec, hc, rc⟩ := pk_lst r hy p2
      exact .inr (.inr (.inl ⟨a, c, xs, ys, ea, ec, ha, hc, by rw [ra.length, rc.length, ← line_eq]; exact hl, fun p hp => okE_lst h r (ra.append rc) hp⟩))
    · cases e3
  · split at e3
    · cases e3
      rename_i hl
      obtain ⟨a, xs, ea, ha, ra⟩ := lk_tup r hx (look_of_peek p1)
      obtain ⟨c, ys, ec, hc, rc⟩ := lk_tup r hy (look_of_peek p2)
      obtain ⟨_, tx⟩ := lk_t r hx (look_of_peek p1) (fun _ z => by cases z)
      obtain ⟨_, ty⟩ := lk_t r hy (look_of_peek p2) (fun _ z => by cases z)
      refine .inr (.inr (.inr ⟨a, c, xs, ys, ea, ec, ha, hc, by rw [ra.length, rc.length, ← line_eq]; exact hl, fun z => ?_, fun _ z => ?_, fun _ _ p hp => okE_tup h r (ra.append rc) hp⟩))
      · have z2 := ra.nil_iff.mp z
        subst z2
        rw [← ec]
        exact okE_val h r ty trivial
      · have z2 := rc.nil_iff.mp z
        subst z2
        rw [List.append_nil] at h
        rw [← ea]
        exact okE_val h r tx trivial
    · cases e3
  · cases e3
theorem hop_sub (r : Rel K F μ S H) (hx : BRp K F μ H x bx) (hy : BRp K F μ H y bY) (h : okE K xc μ W F H σ (g2 .sub bx bY S) Q) : rI0 (fun i j => .int (i - j)) x y H Q := by
  obtain ⟨d, e, b, p1, p2, e2, h⟩ := g2_some h
  have e3 : opSub d e = some b := e2
  unfold opSub at e3
  split at e3
  · cases e3
    rw [lk_int r hx (look_of_peek p1), lk_int r hy (look_of_peek p2)]
    exact ⟨_, _, rfl, rfl, okE_val h r (.int _) trivial⟩
  · cases e3
theorem mul_ok {i j : Int} (h : mulOk i j = true) : CMulW i j := by
  unfold mulOk at h
  have h2 := of_decide_eq_true h
  exact h2
theorem hop_mul (r : Rel K F μ S H) (hx : BRp K F μ H x bx) (hy : BRp K F μ H y bY) (h : okE K xc μ W F H σ (g2 .mul bx bY S) Q) : rMulA K x y H Q := by
  obtain ⟨d, e, b, p1, p2, e2, h⟩ := g2_some h
  have e3 : opMul d e = some b := e2
  unfold opMul at e3
  split at e3
  · split at e3
    · cases e3
      rename_i hl
      rw [lk_int r hx (look_of_peek p1), lk_int r hy (look_of_peek p2)]
      exact .inl ⟨_, _, rfl, rfl, mul_ok hl, okE_val h r (.int _) trivial⟩
    · cases e3
  · split at e3
    · cases e3
      rename_i hl
      obtain ⟨a, xs, ea, ha, ra⟩ := pk_lst r hx p1
      rw [lk_int r hy (look_of_peek p2)]
      exact .inr (.inl ⟨a, _, xs, ea, rfl, ha, by omega, by omega, by rw [ra.length, ← line_eq]; exact hl.2.2, fun p hp => okE_lst h r (ra.rep _) hp⟩)
    · cases e3
  · split at e3
    · cases e3
      rename_i hl
      obtain ⟨a, xs, ea, ha, ra⟩ := lk_tup r hx (look_of_peek p1)
      rw [lk_int r hy (look_of_peek p2)]
      refine .inr (.inr ⟨a, _, xs, ea, rfl, ha, fun z => hl.1 ?_, hl.2.1, hl.2.2.1, by rw [ra.length]; exact hl.2.2.2, fun p hp => okE_tup h r (ra.rep _) hp⟩)
      rw [← ra.length, z]
      rfl
    · cases e3
  · cases e3
theorem hop_mod (r : Rel K F μ S H) (hx : BRp K F μ H x bx) (hy : BRp K F μ H y bY) (h : okE K xc μ W F H σ (g2 .mod bx bY S) Q) : rI (fun _ j => 0 < j) (fun i j => .int (i % j)) x y H Q := by
  obtain ⟨d, e, b, p1, p2, e2, h⟩ := g2_some h
  have e3 : opMod d e = some b := e2
  unfold opMod at e3
  split at e3
  · split at e3
    · cases e3
      rename_i hl
      rw [lk_int r hx (look_of_peek p1), lk_int r hy (look_of_peek p2)]
      exact ⟨_, _, rfl, rfl, hl, okE_val h r (.int _) trivial⟩
    · cases e3
  · cases e3
theorem hop_fdiv (r : Rel K F μ S H) (hx : BRp K F μ H x bx) (hy : BRp K F μ H y bY) (h : okE K xc μ W F H σ (g2 .fdiv bx bY S) Q) : rI CDivW (fun i j => .int (i / j)) x y H Q := by
  obtain ⟨d, e, b, p1, p2, e2, h⟩ := g2_some h
  have e3 : opFdiv d e = some b := e2
  unfold opFdiv at e3
  split at e3
  · split at e3
    · cases e3
      rename_i hl
      rw [lk_int r hx (look_of_peek p1), lk_int r hy (look_of_peek p2)]
      exact ⟨_, _, rfl, rfl, hl, okE_val h r (.int _) trivial⟩
    · cases e3
  · cases e3
theorem intBits_le (i : Int) : Builtin.Int.intBits i ≤ i.natAbs.log2 + 1 := by
  unfold Builtin.Int.intBits
  split <;> omega
theorem hop_pow (r : Rel K F μ S H) (hx : BRp K F μ H x bx) (hy : BRp K F μ H y bY) (h : okE K xc μ W F H σ (g2 .pow bx bY S) Q) : rI CPowX (fun i j => .int (i ^ j.toNat)) x y H Q := by
  obtain ⟨d, e, b, p1, p2, e2, h⟩ := g2_some h
  have e3 : opPow d e = some b := e2
  unfold opPow at e3
  split at e3
  · split at e3
    · cases e3
      rename_i i j hl
      rw [lk_int r hx (look_of_peek p1), lk_int r hy (look_of_peek p2)]
      unfold powOk at hl
      rw [Bool.and_eq_true] at hl
      have h1 := of_decide_eq_true hl.1
      have h2 := of_decide_eq_true hl.2
      refine ⟨_, _, rfl, rfl, ⟨h1, ?_⟩, okE_val h r (.int _) trivial⟩
      have h3 : (Builtin.Int.intBits i : Int) * j ≤ ((i.natAbs.log2 + 1 : Nat) : Int) * j := Int.mul_le_mul_of_nonneg_right (Int.ofNat_le.mpr (intBits_le i)) h1
      omega
    · cases e3
  · cases e3
/-! ### comparisons -/
abbrev rLtA (K : PySem.W.Frag) : R2 := fun x y H Q => rI0 (fun i j => .bl (decide (i < j))) x y H Q ∨ rLtT K x y H Q
theorem op_ltA (hu : X.A.units < cLine) : OpR X (compareOp .Lt) (rLtA X.K) := op_lt.or (op_ltT hu)
theorem hop_eq (r : Rel K F μ S H) (hx : BRp K F μ H x bx) (hy : BRp K F μ H y bY) (h : okE K xc μ W F H σ (c2 .eq bx bY S) Q) : rEqD K x y H Q ∨ rEq x y H Q := by
  obtain ⟨d, e, b, p1, p2, e2, h⟩ := c2_some h
  have e3 : (if eqOk d e then some (eqB d e) else none) = some b := e2
  split at e3
  · cases e3
    rename_i hl
    unfold eqOk at hl
    rcases Bool.or_eq_true_iff.mp hl with hl | hl
    · cases d with
      | str i => cases e with
        | str j =>
          rw [lk_str r hx (look_of_peek p1), lk_str r hy (look_of_peek p2)]
          refine .inr ⟨rfl, ?_⟩
          rw [dec_str]
          have q : eqB (.str i) (.str j) = (i == j) := by unfold eqB; rw [D.py, D.py, PyData.eqv]
          rw [q] at h
          exact okE_val h r (.bl _) trivial
        | _ => cases hl
      | _ => cases hl
    simp only [Bool.and_eq_true] at hl
    exact .inl ⟨_, _, lk_dp r hx (look_of_peek p1), lk_dp r hy (look_of_peek p2), hl.1.2, hl.2, okE_val h r (.bl _) trivial⟩
  · cases e3
theorem hop_ne (r : Rel K F μ S H) (hx : BRp K F μ H x bx) (hy : BRp K F μ H y bY) (h : okE K xc μ W F H σ (c2 .ne bx bY S) Q) : rNeD K x y H Q ∨ rNe x y H Q := by
  obtain ⟨d, e, b, p1, p2, e2, h⟩ := c2_some h
  have e3 : (if eqOk d e then some (!eqB d e) else none) = some b := e2
  split at e3
  · cases e3
    rename_i hl
    unfold eqOk at hl
    rcases Bool.or_eq_true_iff.mp hl with hl | hl
    · cases d with
      | str i => cases e with
        | str j =>
          rw [lk_str r hx (look_of_peek p1), lk_str r hy (look_of_peek p2)]
          refine .inr ⟨rfl, ?_⟩
          rw [dec_str]
          have q : eqB (.str i) (.str j) = (i == j) := by unfold eqB; rw [D.py, D.py, PyData.eqv]
          rw [q] at h
          exact okE_val h r (.bl _) trivial
        | _ => cases hl
      | _ => cases hl
    simp only [Bool.and_eq_true] at hl
    exact .inl ⟨_, _, lk_dp r hx (look_of_peek p1), lk_dp r hy (look_of_peek p2), hl.1.2, hl.2, okE_val h r (.bl _) trivial⟩
  · cases e3
theorem lex_eq : ∀ xs ys : List Int, lexLt xs ys = HT.lexLt xs ys
  | [], [] => rfl
  | [], _ :: _ => rfl
  | _ :: _, [] => rfl
  | x :: xs, y :: ys => by
    unfold lexLt HT.lexLt
    rw [lex_eq xs ys]
theorem hop_lt (r : Rel K F μ S H) (hx : BRp K F μ H x bx) (hy : BRp K F μ H y bY) (h : okE K xc μ W F H σ (c2 .lt bx bY S) Q) : rLtA K x y H Q := by
  obtain ⟨d, e, b, p1, p2, e2, h⟩ := c2_some h
  have e3 : cmLt d e = some b := e2
  unfold cmLt at e3
  split at e3
  · cases e3
    rw [lk_int r hx (look_of_peek p1), lk_int r hy (look_of_peek p2)]
    exact .inl ⟨_, _, rfl, rfl, okE_val h r (.bl _) trivial⟩
  · split at e3
    · cases e3
      rename_i h1 h2
      obtain ⟨a, xs, ea, ha, ra⟩ := lk_tup r hx (look_of_peek p1)
      obtain ⟨c, ys, ec, hc, rc⟩ := lk_tup r hy (look_of_peek p2)
      rw [rpl_ints h1 ra] at ha
      rw [rpl_ints h2 rc] at hc
      rw [lex_eq] at h
      exact .inr ⟨a, c, _, _, ea, ec, ha, hc, okE_val h r (.bl _) trivial⟩
    · cases e3
  · cases e3
theorem hop_cmI {p : Int → Int → Bool} {op : Cm} (he : cmp2 op = cmI p) (r : Rel K F μ S H) (hx : BRp K F μ H x bx) (hy : BRp K F μ H y bY) (h : okE K xc μ W F H σ (c2 op bx bY S) Q) : rI0 (fun i j => .bl (p i j)) x y H Q := by
  obtain ⟨d, e, b, p1, p2, e2, h⟩ := c2_some h
  rw [he] at e2
  unfold cmI at e2
  split at e2
  · cases e2
    rw [lk_int r hx (look_of_peek p1), lk_int r hy (look_of_peek p2)]
    exact ⟨_, _, rfl, rfl, okE_val h r (.bl _) trivial⟩
  · cases e2
theorem non_iff (r : Rel K F μ S H) {v : V} {b : B} {d : D} (bv : BRp K F μ H v b) (h : b.look S = some d) : decide (v = .non) = d.isNon := by
  cases d with
  | lst ds =>
    obtain ⟨a, xs, e, _⟩ := lk_lst r bv h
    rw [e]; rfl
  | tup ds =>
    obtain ⟨a, xs, e, _⟩ := lk_tup r bv h
    rw [e]; rfl
  | non => rw [lk_non r bv h]; rfl
  | bl _ => rw [lk_bl r bv h]; rfl
  | int _ => rw [lk_int r bv h]; rfl
  | str _ => rw [lk_str r bv h]; rfl
  | ins _ _ =>
    obtain ⟨_, q⟩ := lk_t r bv h (fun _ z => by cases z)
    cases q
theorem beq_t (b : Bool) : (b == true) = b := by cases b <;> rfl
theorem beq_f (b : Bool) : (b == false) = !b := by cases b <;> rfl
theorem hop_isN (r : Rel K F μ S H) (hx : BRp K F μ H x bx) (hy : BRp K F μ H y bY) (h : okE K xc μ W F H σ (c2 .isN bx bY S) Q) : y = .non ∧ Q (.bl (decide (x = .non))) H := by
  obtain ⟨d, e, b, p1, p2, e2, h⟩ := c2_some h
  have e3 : cmN true d e = some b := e2
  unfold cmN at e3
  split at e3
  · cases e3
    refine ⟨lk_non r hy (look_of_peek p2), ?_⟩
    rw [non_iff r hx (look_of_peek p1)]
    have := okE_val h r (.bl _) trivial
    rwa [beq_t] at this
  · cases e3
theorem hop_notN (r : Rel K F μ S H) (hx : BRp K F μ H x bx) (hy : BRp K F μ H y bY) (h : okE K xc μ W F H σ (c2 .notN bx bY S) Q) : y = .non ∧ Q (.bl (!decide (x = .non))) H := by
  obtain ⟨d, e, b, p1, p2, e2, h⟩ := c2_some h
  have e3 : cmN false d e = some b := e2
  unfold cmN at e3
  split at e3
  · cases e3
    refine ⟨lk_non r hy (look_of_peek p2), ?_⟩
    rw [non_iff r hx (look_of_peek p1)]
    have := okE_val h r (.bl _) trivial
    rwa [beq_f] at this
  · cases e3
theorem hop_in {k : Bool} {op : Cm} (he : cmp2 op = cmIn k) (r : Rel K F μ S H) (hx : BRp K F μ H x bx) (hy : BRp K F μ H y bY) (h : okE K xc μ W F H σ (c2 op bx bY S) Q) : rIn K (!k) x y H Q := by
  obtain ⟨d, e, b, p1, p2, e2, h⟩ := c2_some h
  rw [he] at e2
  have fin : ∀ {p : Addr} {xs : List V} {ds : List D}, y = .ref p → (SqL K H p xs ∨ SqT K H p xs) → RpL K F xs ds → memOk d ds = true → okE K xc μ W F H σ (.ok (.t (.bl (memB d ds == k))) S) Q → rIn K (!k) x y H Q := by
    intro p xs ds ey hs rs hm h
    unfold memOk at hm
    rw [Bool.and_eq_true] at hm
    obtain ⟨_, qx⟩ := lk_t r hx (look_of_peek p1) (fun _ z => by rw [z] at hm; cases hm.1)
    refine ⟨p, xs, ey, hs, flat_rp qx hm.1, flats_rp rs hm.2, ?_⟩
    rw [in_flat qx hm.1 rs hm.2]
    have := okE_val h r (.bl _) trivial
    cases k with
    | true => rwa [beq_t] at this
    | false => rwa [beq_f] at this
  unfold cmIn at e2
  split at e2
  · split at e2
    · cases e2
      rename_i hm
      obtain ⟨a, xs, ea, ha, ra⟩ := lk_lst r hy (look_of_peek p2)
      exact fin ea (.inl ha) ra hm h
    · cases e2
  · split at e2
    · cases e2
      rename_i hm
      obtain ⟨a, xs, ea, ha, ra⟩ := lk_tup r hy (look_of_peek p2)
      exact fin ea (.inr ha) ra hm h
    · cases e2
  · cases e2
/-! ### truth -/
theorem tru_of (r : Rel K F μ S H) {v : V} {b : B} {k : Bool} (bv : BRp K F μ H v b) (h : truB b S = some k) : TruV K v H k := by
  unfold truB at h
  cases q : b.look S with
  | none => rw [q] at h; cases h
  | some d =>
    rw [q] at h
    have h : d.tru = some k := h
    cases d with
    | non => cases h; rw [lk_non r bv q]; rfl
    | bl _ => cases h; rw [lk_bl r bv q]; rfl
    | int _ => cases h; rw [lk_int r bv q]; rfl
    | str s =>
      have h' : (if s.length ≤ line then some (s.length != 0) else none) = some k := h
      by_cases hl : s.length ≤ line
      · rw [if_pos hl] at h'
        have hk := Option.some.inj h'
        rw [lk_str r bv q, ← hk]
        refine ⟨by rw [← line_eq]; exact hl, ?_⟩
        by_cases z : s.length = 0
        · rw [z]; rfl
        · have z2 : ¬ ((s.length : Int) = 0) := by omega
          rw [bne_iff_ne.mpr z, bne_iff_ne.mpr z2]
      · rw [if_neg hl] at h'
        cases h'
    | tup ds =>
      cases h
      obtain ⟨a, xs, e, h1, h2⟩ := lk_tup r bv q
      rw [e]
      refine .inr (.inl ⟨xs, h1, ?_⟩)
      cases h2 <;> rfl
    | lst ds =>
      cases h
      obtain ⟨a, xs, e, h1, h2⟩ := lk_lst r bv q
      rw [e]
      refine .inl ⟨xs, h1, ?_⟩
      cases h2 <;> rfl
    | ins _ _ => cases h
end
end Zw
set_option Elab.async false
set_option linter.all false
set_option maxRecDepth 100000
/-! Zw3: built-ins called, defs called. -/
namespace Zw
open PySem PySem.Spec PyProof.Rows L2
/-! ### the frozen -/
section
variable {K : PySem.W.Frag} {xc : Nat → Option XCls} {W : WX} {F : Hp} {μ : List Addr} {S : Store} {H : Hp} {σ : L2.St}
theorem Rel.still {S : Store} {F1 H1 : Hp} {a : Addr} {xs : List V} (r : Rel K F1 μ S H1) (ha : H1 a = some (.lst xs)) (n : F1 a = none) (m : a ∉ μ) : Rel K (upd F1 a (.lst xs)) μ S H1 := by
  have s : Same F1 (upd F1 a (.lst xs)) := fun b o e => by
    have q : b ≠ a := fun z => by rw [z, n] at e; cases e
    rw [upd_ne q]; exact e
  refine ⟨fun b o e => ?_, r.len, r.nd, fun k b ys e1 e2 => ?_, fun b hb => ?_⟩
  · by_cases q : b = a
    · rw [q, upd_same] at e; rw [q, ha]; exact e
    · rw [upd_ne q] at e; exact r.sub b o e
  · obtain ⟨vs, h1, h2⟩ := r.obj k b ys e1 e2
    exact ⟨vs, h1, h2.mono s⟩
  · have q : b ≠ a := fun z => m (by rw [← z]; exact hb)
    rw [upd_ne q]; exact r.dis b hb
theorem Ext.still {F1 H1 : Hp} {a : Addr} {xs : List V} (x : Ext μ F H F1 H1) (n : F1 a = none) (h : H a = none) : Ext μ F H (upd F1 a (.lst xs)) H1 := by
  refine ⟨fun b o e => ?_, fun b hb => ?_, x.keep, x.live⟩
  · have e1 := x.fs b o e
    have q : b ≠ a := fun z => by rw [z, n] at e1; cases e1
    rw [upd_ne q]; exact e1
  · have q : b ≠ a := fun z => hb (by rw [z]; exact h)
    rw [upd_ne q]; exact x.fn b hb
/-- a fresh list may be taken for a tree -/
theorem okE_still {r : R B} {Q : VK} (h : okE K xc μ W F H σ (r.bind fun b s => .ok b.still s) Q) : okE K xc μ W F H σ r Q := by
  cases r with
  | ok b S1 =>
    intro F1 H1 v x r1 bv fr
    cases b with
    | own d =>
      obtain ⟨a, xs, ds, e, ed, ha, rs, n, m⟩ := bv
      have hn : H a = none := fr a e
      refine h (upd F1 a (.lst xs)) H1 v (x.still n hn) (r1.still ha n m) ?_ trivial
      show Rp K _ v d
      rw [e, ed]
      exact .lst upd_same (rs.mono (fun b o e => by
        have q : b ≠ a := fun z => by rw [z, n] at e; cases e
        rw [upd_ne q]; exact e))
    | t d => exact h F1 H1 v x r1 bv fr
    | bor d => exact h F1 H1 v x r1 bv fr
    | sc d => exact h F1 H1 v x r1 bv fr
    | r k => exact h F1 H1 v x r1 bv fr
  | ex c p S1 => exact h
  | bad => exact h
theorem still_frz {b : B} {d : D} (h : b.frz = some d) : b.still = .t d := by
  cases b with
  | t _ => cases h; rfl
  | own _ => cases h; rfl
  | bor _ => cases h
  | sc _ => cases h
  | r _ => cases h
end
/-! ### built-ins -/
section
variable {X : Cx} {K : PySem.W.Frag} {xc : Nat → Option XCls} {W : WX} {F : Hp} {μ : List Addr} {S : Store} {H : Hp} {σ : L2.St} {x y : V} {bx bY : B} {Q : VK}
def h1 (f : Bi) (x : B) (s : Store) : R B := .of ((x.look s).bind (bi1 f)) s
def h2 (f : Bi) (x y : B) (s : Store) : R B := .of ((x.peek s).bind fun x => (y.peek s).bind (bi2 f x)) s
theorem h1_some {f : Bi} (h : okE K xc μ W F H σ (h1 f bx S) Q) : ∃ d b, bx.look S = some d ∧ bi1 f d = some b ∧ okE K xc μ W F H σ (.ok b S) Q := by
  obtain ⟨b, e, h⟩ := of_some (F := F) (H := H) (σ := σ) (P := fun r => okE K xc μ W F H σ r Q) h (fun z => z)
  cases q : bx.look S with
  | none => rw [q] at e; cases e
  | some d => rw [q] at e; exact ⟨d, b, rfl, e, h⟩
theorem h2_some {f : Bi} (h : okE K xc μ W F H σ (h2 f bx bY S) Q) : ∃ d e b, bx.peek S = some d ∧ bY.peek S = some e ∧ bi2 f d e = some b ∧ okE K xc μ W F H σ (.ok b S) Q := by
  obtain ⟨b, e, h⟩ := of_some (F := F) (H := H) (σ := σ) (P := fun r => okE K xc μ W F H σ r Q) h (fun z => z)
  cases q : bx.peek S with
  | none => rw [q] at e; cases e
  | some d =>
    rw [q] at e
    cases q2 : bY.peek S with
    | none => rw [q2] at e; cases e
    | some d' => rw [q2] at e; exact ⟨d, d', b, rfl, rfl, e, h⟩
abbrev RV1 := List V → Hp → VK → Prop
abbrev rLenA (K : PySem.W.Frag) : RV1 := fun xs H Q => (∃ p ys, xs = [.ref p] ∧ (SqL K H p ys ∨ SqT K H p ys) ∧ Q (.int ys.length) H) ∨ (∃ z, xs = [.str z] ∧ z.length ≤ sizeLine ∧ Q (.int z.length) H)
theorem call_lenA : CallR X (.builtin "len") (rLenA X.K) := call_len_seq.or call_len_str
theorem hop_len (r : Rel K F μ S H) (hx : BRp K F μ H x bx) (h : okE K xc μ W F H σ (h1 .len bx S) Q) : rLenA K [x] H Q := by
  obtain ⟨d, b, p1, e2, h⟩ := h1_some h
  have e3 : biLen d = some b := e2
  unfold biLen at e3
  split at e3
  · cases e3
    obtain ⟨a, xs, ea, ha, ra⟩ := lk_tup r hx p1
    exact .inl ⟨a, xs, by rw [ea], .inr ha, by rw [ra.length]; exact okE_val h r (.int _) trivial⟩
  · cases e3
    obtain ⟨a, xs, ea, ha, ra⟩ := lk_lst r hx p1
    exact .inl ⟨a, xs, by rw [ea], .inl ha, by rw [ra.length]; exact okE_val h r (.int _) trivial⟩
  · split at e3
    · cases e3
      rename_i hl
      exact .inr ⟨_, by rw [lk_str r hx p1], by rw [← line_eq]; exact hl, okE_val h r (.int _) trivial⟩
    · cases e3
  · cases e3
theorem hop_abs (r : Rel K F μ S H) (hx : BRp K F μ H x bx) (h : okE K xc μ W F H σ (h1 .abs bx S) Q) : ∃ i, [x] = [V.int i] ∧ Q (.int (if i < 0 then -i else i)) H := by
  obtain ⟨d, b, p1, e2, h⟩ := h1_some h
  have e3 : biAbs d = some b := e2
  unfold biAbs at e3
  split at e3
  · cases e3
    exact ⟨_, by rw [lk_int r hx p1], okE_val h r (.int _) trivial⟩
  · cases e3
theorem hop_int (r : Rel K F μ S H) (hx : BRp K F μ H x bx) (h : okE K xc μ W F H σ (h1 .int bx S) Q) : (∃ i, [x] = [V.int i] ∧ Q (.int i) H) ∨ ∃ k, [x] = [V.bl k] ∧ Q (.int (if k then 1 else 0)) H := by
  obtain ⟨d, b, p1, e2, h⟩ := h1_some h
  have e3 : biInt d = some b := e2
  unfold biInt at e3
  split at e3
  · cases e3
    exact .inl ⟨_, by rw [lk_int r hx p1], okE_val h r (.int _) trivial⟩
  · cases e3
    exact .inr ⟨_, by rw [lk_bl r hx p1], okE_val h r (.int _) trivial⟩
  · cases e3
theorem hop_all (r : Rel K F μ S H) (hx : BRp K F μ H x bx) (h : okE K xc μ W F H σ (h1 .all bx S) Q) : rAll K [x] H Q := by
  obtain ⟨d, b, p1, e2, h⟩ := h1_some h
  have e3 : biAll (fun bs => bs.all id) d = some b := e2
  unfold biAll at e3
  split at e3
  · obtain ⟨bs, e4, e5⟩ := Option.map_eq_some_iff.mp e3
    subst e5
    obtain ⟨a, xs, ea, ha, ra⟩ := lk_lst r hx p1
    rw [rpl_bls e4 ra] at ha
    exact ⟨a, bs, by rw [ea], ha, okE_val h r (.bl _) trivial⟩
  · cases e3
theorem hop_any (r : Rel K F μ S H) (hx : BRp K F μ H x bx) (h : okE K xc μ W F H σ (h1 .any bx S) Q) : rAny K [x] H Q := by
  obtain ⟨d, b, p1, e2, h⟩ := h1_some h
  have e3 : biAll (fun bs => bs.any id) d = some b := e2
  unfold biAll at e3
  split at e3
  · obtain ⟨bs, e4, e5⟩ := Option.map_eq_some_iff.mp e3
    subst e5
    obtain ⟨a, xs, ea, ha, ra⟩ := lk_lst r hx p1
    rw [rpl_bls e4 ra] at ha
    exact ⟨a, bs, by rw [ea], ha, okE_val h r (.bl _) trivial⟩
  · cases e3
theorem hop_sum (r : Rel K F μ S H) (hx : BRp K F μ H x bx) (h : okE K xc μ W F H σ (h1 .sum bx S) Q) : rSum K [x] H Q := by
  obtain ⟨d, b, p1, e2, h⟩ := h1_some h
  have e3 : biSum d = some b := e2
  unfold biSum at e3
  split at e3
  · obtain ⟨bs, e4, e5⟩ := Option.map_eq_some_iff.mp e3
    subst e5
    obtain ⟨a, xs, ea, ha, ra⟩ := lk_lst r hx p1
    rw [rpl_ints e4 ra] at ha
    exact ⟨a, bs, by rw [ea], ha, okE_val h r (.int _) trivial⟩
  · cases e3
theorem hop_tuple (r : Rel K F μ S H) (hx : BRp K F μ H x bx) (h : okE K xc μ W F H σ (h1 .tuple bx S) Q) :
    ∃ p ys, [x] = [V.ref p] ∧ ((SqL K H p ys ∧ ∀ l, H l = none → Q (.ref l) (upd H l (.tup ys))) ∨ (SqT K H p ys ∧ Q (.ref p) H)) := by
  obtain ⟨d, b, p1, e2, h⟩ := h1_some h
  have e3 : biTuple d = some b := e2
  unfold biTuple at e3
  split at e3
  · cases e3
    obtain ⟨a, xs, ea, ha, ra⟩ := lk_tup r hx p1
    obtain ⟨_, tx⟩ := lk_t r hx p1 (fun _ z => by cases z)
    exact ⟨a, xs, by rw [ea], .inr ⟨ha, by rw [← ea]; exact okE_val h r tx trivial⟩⟩
  · cases e3
    obtain ⟨a, xs, ea, ha, ra⟩ := lk_lst r hx p1
    exact ⟨a, xs, by rw [ea], .inl ⟨ha, fun l hl => okE_tup h r ra hl⟩⟩
  · cases e3
theorem hop_list (r : Rel K F μ S H) (hx : BRp K F μ H x bx) (h : okE K xc μ W F H σ (h1 .list bx S) Q) :
    ∃ p ys, [x] = [V.ref p] ∧ (SqL K H p ys ∨ SqT K H p ys) ∧ ∀ l, H l = none → Q (.ref l) (upd H l (.lst ys)) := by
  obtain ⟨d, b, p1, e2, h⟩ := h1_some h
  have e3 : biList d = some b := e2
  unfold biList at e3
  split at e3
  · cases e3
    obtain ⟨a, xs, ea, ha, ra⟩ := lk_tup r hx p1
    exact ⟨a, xs, by rw [ea], .inr ha, fun l hl => okE_lst h r ra hl⟩
  · cases e3
    obtain ⟨a, xs, ea, ha, ra⟩ := lk_lst r hx p1
    exact ⟨a, xs, by rw [ea], .inl ha, fun l hl => okE_lst h r ra hl⟩
  · cases e3
/-- repr of plain data -/
def rRepr (K : PySem.W.Frag) : RV1 := fun xs H Q => ∃ x d, xs = [x] ∧ Dp K H x d ∧ d.showable = true ∧ d.hasDict = false ∧ d.depth ≤ 64 ∧ d.shown.length ≤ sizeLine ∧ Q (.str d.shown) H
theorem call_reprA {k : Nat} (hr : Room k X.A) (hg : X.A.guards = some []) : CallR X (.builtin "repr") (rRepr X.K) := by
  intro pins s σ H xs us Q I r h
  obtain ⟨x, d, rfl, hd, hs, hn, hdp, hz, q⟩ := h
  obtain ⟨u, rfl, ru⟩ := r.one
  have hu := hr.un
  cases hd with
  | non => cases (show u = Value.none from ru); exact PySem.P.repr_of_none ⟨.str _, H, I.tok _, ⟨_, rfl⟩, q⟩
  | bl b =>
    cases (show u = Value.bool b from ru)
    exact PySem.P.repr_of_bool ⟨.str _, H, I.tok _, ⟨_, rfl⟩, by cases b <;> exact q⟩
  | int i =>
    obtain ⟨t, e⟩ := (show ∃ t, u = Value.int i t from ru)
    subst e
    exact PySem.P.repr_of_int (by simpa [PyData.showable] using hs) ⟨.str _, H, I.tok _, ⟨_, rfl⟩, q⟩
  | str z =>
    obtain ⟨t, e⟩ := (show ∃ t, u = Value.str z t from ru)
    subst e
    exact PySem.P.repr_of_str ⟨.str _, H, I.tok _, ⟨_, rfl⟩, q⟩ hz
  | @lst a xs ds h1 h2 =>
    obtain ⟨as, rd⟩ := Dp.reads I (.list ds) (.ref a) u (.lst h1 h2) ru
    cases (show u = Value.ref a from ru)
    exact repr_of_reads' rd hs (fun z => by rw [hn] at z; cases z) hg (by omega) (fun _ _ e => e) (fun h' u tk hk => ⟨.str _, H, I.kept hk, ⟨_, rfl⟩, q⟩) hz
  | @tup a xs ds h1 h2 =>
    obtain ⟨as, rd⟩ := Dp.reads I (.tuple ds) (.ref a) u (.tup h1 h2) ru
    cases (show u = Value.ref a from ru)
    exact repr_of_reads' rd hs (fun z => by rw [hn] at z; cases z) hg (by omega) (fun _ _ e => e) (fun h' u tk hk => ⟨.str _, H, I.kept hk, ⟨_, rfl⟩, q⟩) hz
mutual
theorem noDict : ∀ d : D, d.py.hasDict = false
  | .non => rfl
  | .bl _ => rfl
  | .int _ => rfl
  | .str _ => rfl
  | .tup xs => noDicts xs
  | .lst xs => noDicts xs
  | .ins _ _ => rfl
theorem noDicts : ∀ ds : List D, PyData.hasDictAll (D.pys ds) = false
  | [] => rfl
  | x :: xs => by
    show (x.py.hasDict || PyData.hasDictAll (D.pys xs)) = false
    rw [noDict x, noDicts xs] <;> rfl
end
theorem hop_repr (r : Rel K F μ S H) (hx : BRp K F μ H x bx) (h : okE K xc μ W F H σ (h1 .repr bx S) Q) : rRepr K [x] H Q := by
  obtain ⟨d, b, p1, e2, h⟩ := h1_some h
  have e3 : (if reprOk d then some (B.t (.str d.py.shown)) else none) = some b := e2
  split at e3
  · cases e3
    rename_i hl
    unfold reprOk at hl
    simp only [Bool.and_eq_true] at hl
    exact ⟨x, d.py, rfl, lk_dp r hx p1, hl.1.1.2, noDict d, of_decide_eq_true hl.1.2, by rw [← line_eq]; exact of_decide_eq_true hl.2, okE_val h r (.str _) trivial⟩
  · cases e3
/-! isinstance of a built-in class -/
def Ty.name : Ty → Option String
  | .int => some "int"
  | .bool => some "bool"
  | .tuple => some "tuple"
  | .list => some "list"
  | .str => some "str"
  | .dict => some "dict"
  | .cls _ => none
def D.tyName : D → String
  | .non => "NoneType"
  | .bl _ => "bool"
  | .int _ => "int"
  | .str _ => "str"
  | .tup _ => "tuple"
  | .lst _ => "list"
  | .ins _ _ => "object"
theorem rp_plainroot {v : V} {d : D} (h : Rp K F v d) : ∀ c fs, d ≠ .ins c fs := by
  intro c fs z
  subst z
  cases h
theorem tyx_of (r : Rel K F μ S H) {d : D} (hx : BRp K F μ H x bx) (h : bx.look S = some d) : TyX K H x (.type d.tyName) := by
  cases d with
  | non => rw [lk_non r hx h]; exact .base .non
  | bl _ => rw [lk_bl r hx h]; exact .base (.bl _)
  | int _ => rw [lk_int r hx h]; exact .base (.int _)
  | str _ => rw [lk_str r hx h]; exact .base (.str _)
  | tup ds =>
    obtain ⟨a, xs, e, h1, _⟩ := lk_tup r hx h
    rw [e]
    rcases h1 with (h1 | ⟨o, h1⟩) | ⟨o, its, n, hk, hc, _⟩
    · exact .base (.tup h1)
    · exact .fTuple h1
    · exact .kTuple hk hc
  | lst ds =>
    obtain ⟨a, xs, e, h1, _⟩ := lk_lst r hx h
    rw [e]
    rcases h1 with (h1 | ⟨o, h1⟩) | ⟨o, its, n, hk, hc, _⟩
    · exact .base (.lst h1)
    · exact .base (.frz h1)
    · exact .kList hk hc
  | ins c fs => exact absurd rfl (rp_plainroot (lk_t r hx h (fun _ z => by cases z)).2 c fs)
def tyTab (a b : String) : Bool := a == b || (a == "bool" && b == "int")
theorem kit_tab : (["NoneType", "bool", "int", "str", "tuple", "list"].all fun a => ["int", "bool", "tuple", "list", "str", "dict"].all fun b => kitB a b == some (tyTab a b)) = true := by decide +kernel
theorem kit_d (ty : Ty) (n : String) (hn : ty.name = some n) (d : D) (hp : ∀ c fs, d ≠ .ins c fs) : PySem.W.kitOne K (.type d.tyName) (.type n) = some (isTy ty d) := by
  have e : kitB d.tyName n = some (tyTab d.tyName n) := by
    have h := kit_tab
    rw [List.all_eq_true] at h
    have hd : d.tyName ∈ ["NoneType", "bool", "int", "str", "tuple", "list"] := by
      cases d <;> first | exact absurd rfl (hp _ _) | simp [D.tyName]
    have h2 := h _ hd
    rw [List.all_eq_true] at h2
    have hm : n ∈ ["int", "bool", "tuple", "list", "str", "dict"] := by
      cases ty <;> cases hn <;> simp
    exact beq_iff_eq.mp (h2 _ hm)
  rw [kit_ty e]
  congr 1
  cases ty <;> cases hn <;> cases d <;> first | exact absurd rfl (hp _ _) | rfl
theorem hop_isi {ty : Ty} {n : String} (hn : ty.name = some n) (r : Rel K F μ S H) (hx : BRp K F μ H x bx) (h : okE K xc μ W F H σ (h1 (.isi ty) bx S) Q) : rIsi K [x, .ty n] H Q := by
  obtain ⟨d, b, p1, e2, h⟩ := h1_some h
  have e3 : some (B.t (.bl (isTy ty d))) = some b := e2
  cases e3
  refine ⟨x, .ty n, _, _, _, rfl, .ty n, tyx_of r hx p1, kit_d ty n hn d (fun c fs z => ?_), okE_val h r (.bl _) trivial⟩
  subst z
  exact rp_plainroot (lk_t r hx p1 (fun _ z => by cases z)).2 c fs rfl
theorem hop_2I {f : Int → Int → Int} {b : Bi} (he : bi2 b = bi2I f) (r : Rel K F μ S H) (hx : BRp K F μ H x bx) (hy : BRp K F μ H y bY) (h : okE K xc μ W F H σ (h2 b bx bY S) Q) : ∃ i j, [x, y] = [V.int i, V.int j] ∧ Q (.int (f i j)) H := by
  obtain ⟨d, e, b', p1, p2, e2, h⟩ := h2_some h
  rw [he] at e2
  unfold bi2I at e2
  split at e2
  · cases e2
    exact ⟨_, _, by rw [lk_int r hx (look_of_peek p1), lk_int r hy (look_of_peek p2)], okE_val h r (.int _) trivial⟩
  · cases e2
end
/-! ### defs -/
/-- what is wanted of a call's result -/
def okC (K : PySem.W.Frag) (xc : Nat → Option XCls) (μ : List Addr) (F H : Hp) (r : R B) (Q : VK) (E : XK) : Prop := match r with
  | .ok b S' => ∀ F' H' v, Ext μ F H F' H' → Rel K F' μ S' H' → BRp K F' μ H' v b → Fresh H v b → Q v H'
  | .ex c p S' => ∀ F' H' cls d, Ext μ F H F' H' → Rel K F' μ S' H' → XR K xc F' H' c p cls d → E cls d H'
  | .bad => False
/-- the def at f does what m says -/
structure FnC (P : Program) (w : World) (K : PySem.W.Frag) (mg : Str → Option Value) (base : Heap) (xc : Nat → Option XCls) (k : Nat) (f : Addr) (m : List B → Store → R B) : Prop where
  run : ∀ (A : Around) (outer : List PySem.Env) (s : Shared) (H : Hp) (us : List Value) (vs : List V) (F : Hp) (μ : List Addr) (S : Store) (bs : List B) (Q : VK) (E : XK),
    Room k A → A.guards = some [] → Env0 P w K mg base A outer s H → Vals vs us → Rel K F μ S H → BRs K F μ H vs bs → okC K xc μ F H (m bs S) Q E →
    codeAny (model P w) A (.call (.ref f) ⟨us, []⟩) (CR (L2.CX P w) outer P w H s Q E) s
section
variable {X : Cx} {K : PySem.W.Frag} {xc : Nat → Option XCls} {W : WX} {F : Hp} {μ : List Addr} {S : Store} {H : Hp} {σ : L2.St} {Q : VK}
theorem getAll_len : ∀ {ks : List Nat} {os : Store}, getAll S ks = some os → ks.length = os.length
  | [], os, h => by cases h; rfl
  | k :: ks, os, h => by
    unfold getAll at h
    cases q : S[k]? with
    | none => rw [q] at h; cases h
    | some o =>
      rw [q] at h
      cases q2 : getAll S ks with
      | none => rw [q2] at h; cases h
      | some os' =>
        rw [q2] at h
        cases h
        simp [getAll_len q2]
theorem getAll_get : ∀ {ks : List Nat} {os : Store} {i : Nat} {k : Nat}, getAll S ks = some os → ks[i]? = some k → S[k]? = os[i]? ∧ k < S.length
  | [], _, _, _, _, e => by simp at e
  | k0 :: ks, os, i, k, h, e => by
    unfold getAll at h
    cases q : S[k0]? with
    | none => rw [q] at h; cases h
    | some o =>
      rw [q] at h
      cases q2 : getAll S ks with
      | none => rw [q2] at h; cases h
      | some os' =>
        rw [q2] at h
        cases h
        cases i with
        | zero =>
          simp at e
          subst e
          exact ⟨by simpa using q, (List.getElem?_eq_some_iff.mp q).1⟩
        | succ i =>
          have := getAll_get q2 (i := i) (by simpa using e)
          simpa using this
theorem putAll_len : ∀ (ks : List Nat) (os S : Store), (putAll S ks os).length = S.length
  | [], os, S => by simp [putAll]
  | _ :: _, [], S => by simp [putAll]
  | k :: ks, o :: os, S => by
    show (putAll (S.set k o) ks os).length = S.length
    rw [putAll_len ks os]
    simp
theorem putAll_out : ∀ {ks : List Nat} {os S : Store} {k : Nat}, k ∉ ks → (putAll S ks os)[k]? = S[k]?
  | [], os, S, _, _ => by simp [putAll]
  | _ :: _, [], S, _, _ => by simp [putAll]
  | k0 :: ks, o :: os, S, k, h => by
    show (putAll (S.set k0 o) ks os)[k]? = S[k]?
    rw [putAll_out (fun z => h (List.mem_cons_of_mem _ z)), List.getElem?_set_ne (fun z => h (by rw [z]; exact List.mem_cons_self))]
theorem putAll_in : ∀ {ks : List Nat} {os S : Store} {k i : Nat}, ks.Nodup → ks.length = os.length → (∀ k ∈ ks, k < S.length) → ks[i]? = some k → (putAll S ks os)[k]? = os[i]?
  | [], _, _, _, _, _, _, _, e => by simp at e
  | _ :: _, [], _, _, _, _, h, _, _ => by simp at h
  | k0 :: ks, o :: os, S, k, i, nd, hl, hs, e => by
    show (putAll (S.set k0 o) ks os)[k]? = (o :: os)[i]?
    obtain ⟨n1, n2⟩ := List.nodup_cons.mp nd
    cases i with
    | zero =>
      simp at e
      subst e
      rw [putAll_out n1, List.getElem?_set_self (hs _ List.mem_cons_self)]
      rfl
    | succ i =>
      simp at e
      rw [putAll_in (i := i) n2 (by simpa using hl) (fun k hk => by rw [List.length_set]; exact hs k (List.mem_cons_of_mem _ hk)) e]
      rfl
theorem Rel.live (r : Rel K F μ S H) {a : Addr} (ha : a ∈ μ) : H a ≠ none := by
  intro hp
  exact (r.out hp).2 ha
/-- the addresses of the places ks -/
def adr (μ : List Addr) (k : Nat) : Addr := (μ[k]?).getD 0
theorem adr_of {k : Nat} {a : Addr} (h : μ[k]? = some a) : adr μ k = a := by unfold adr; rw [h]; rfl
theorem refs_ok : ∀ {vs : List V} {bs : List B}, BRs K F μ H vs bs → ∀ k ∈ bs.filterMap B.ref?, ∃ a, μ[k]? = some a
  | _, _, .nil, k, h => by simp at h
  | _, _, .cons (b := b) (bs := bs) h r, k, hk => by
    rw [List.filterMap_cons] at hk
    cases b with
    | r j =>
      rcases List.mem_cons.mp (show k ∈ j :: bs.filterMap B.ref? from hk) with e | hk
      · obtain ⟨a, _, ha⟩ := h
        exact ⟨a, by rw [e]; exact ha⟩
      · exact refs_ok r k hk
    | t _ => exact refs_ok r k hk
    | own _ => exact refs_ok r k hk
    | bor _ => exact refs_ok r k hk
    | sc _ => exact refs_ok r k hk
theorem renum_ok {μ' : List Addr} (hsub : ∀ a ∈ μ', a ∈ μ) : ∀ {vs : List V} {bs : List B} (pre : List Addr), BRs K F μ H vs bs → μ' = pre ++ (bs.filterMap B.ref?).map (adr μ) → BRs K F μ' H vs (renum bs pre.length)
  | _, _, _, .nil, _ => .nil
  | _, _, pre, .cons (b := b) (bs := bs) h r, e => by
    have own : ∀ {d : D} {v : V}, OwnAt K F μ H v d → OwnAt K F μ' H v d := fun ⟨a, xs, ds, e1, e2, e3, e4, e5, e6⟩ => ⟨a, xs, ds, e1, e2, e3, e4, e5, fun z => e6 (hsub a z)⟩
    rw [List.filterMap_cons] at e
    cases b with
    | r j =>
      obtain ⟨a, ea, ha⟩ := h
      have e' : μ' = (pre ++ [a]) ++ (bs.filterMap B.ref?).map (adr μ) := by
        rw [e]
        show pre ++ (adr μ j :: (bs.filterMap B.ref?).map (adr μ)) = _
        rw [adr_of ha, List.append_assoc]
        rfl
      have ih := renum_ok hsub (pre ++ [a]) r e'
      rw [List.length_append] at ih
      refine .cons ⟨a, ea, ?_⟩ ih
      rw [e', List.append_assoc]
      simp
    | t d => exact .cons h (renum_ok hsub pre r e)
    | own d => exact .cons (own h) (renum_ok hsub pre r e)
    | bor d => exact .cons (own h) (renum_ok hsub pre r e)
    | sc d =>
      obtain ⟨a, xs, ds, e1, e2, e3, e4⟩ := h
      exact .cons ⟨a, xs, ds, e1, e2, e3.to fun o h m => ⟨h, fun z => m (hsub a z)⟩, e4⟩ (renum_ok hsub pre r e)
theorem nodup_map {f : Nat → Addr} : ∀ {ks : List Nat}, ks.Nodup → (∀ i ∈ ks, ∀ j ∈ ks, f i = f j → i = j) → (ks.map f).Nodup
  | [], _, _ => by simp
  | k :: ks, nd, h => by
    obtain ⟨n1, n2⟩ := List.nodup_cons.mp nd
    rw [List.map_cons, List.nodup_cons]
    refine ⟨fun z => ?_, nodup_map n2 fun i hi j hj => h i (List.mem_cons_of_mem _ hi) j (List.mem_cons_of_mem _ hj)⟩
    obtain ⟨j, hj, e⟩ := List.mem_map.mp z
    have := h j (List.mem_cons_of_mem _ hj) k List.mem_cons_self e
    subst this
    exact n1 hj
theorem callS_ok {m : List B → Store → R B} {bs : List B} {vs : List V} (hm : okE K xc μ W F H σ (callS m bs S) Q) (r : Rel K F μ S H) (rs : BRs K F μ H vs bs) :
    ∃ μ' os, Rel K F μ' os H ∧ BRs K F μ' H vs (renum bs 0) ∧ okC K xc μ' F H (m (renum bs 0) os) Q (fun cls d H' => W cls d σ H') := by
  unfold callS at hm
  dsimp only at hm
  have nd : (bs.filterMap B.ref?).Nodup := Decidable.byContradiction fun nd => by
    rw [if_neg nd] at hm
    exact hm.elim
  rw [if_pos nd] at hm
  cases ga : getAll S (bs.filterMap B.ref?) with
  | none => rw [ga] at hm; exact hm.elim
  | some os =>
  rw [ga] at hm
  dsimp only at hm
  generalize hks : bs.filterMap B.ref? = ks at *
  have hv : ∀ k ∈ ks, ∃ a, μ[k]? = some a := by rw [← hks]; exact refs_ok rs
  have hin : ∀ a ∈ ks.map (adr μ), a ∈ μ := fun a ha => by
    obtain ⟨k, hk, e⟩ := List.mem_map.mp ha
    obtain ⟨c, hc⟩ := hv k hk
    rw [← e, adr_of hc]
    exact List.mem_of_getElem? hc
  have inj : ∀ i ∈ ks, ∀ j ∈ ks, adr μ i = adr μ j → i = j := fun i hi j hj e => by
    obtain ⟨a, ha⟩ := hv i hi
    obtain ⟨c, hc⟩ := hv j hj
    rw [adr_of ha, adr_of hc] at e
    subst e
    obtain ⟨l1, q1⟩ := List.getElem?_eq_some_iff.mp ha
    obtain ⟨l2, q2⟩ := List.getElem?_eq_some_iff.mp hc
    exact (List.getElem_inj r.nd).mp (q1.trans q2.symm)
  have hlen := getAll_len ga
  have r' : Rel K F (ks.map (adr μ)) os H := by
    refine ⟨r.sub, by rw [List.length_map]; exact hlen, nodup_map nd inj, fun i a xs e1 e2 => ?_, fun a ha => r.dis a (hin a ha)⟩
    rw [List.getElem?_map] at e1
    cases q : ks[i]? with
    | none => rw [q] at e1; cases e1
    | some k =>
      rw [q] at e1
      have ea : adr μ k = a := by simpa using e1
      obtain ⟨c, hc⟩ := hv k (List.mem_of_getElem? q)
      rw [adr_of hc] at ea
      subst ea
      exact r.obj k c xs hc (by rw [(getAll_get ga q).1]; exact e2)
  refine ⟨ks.map (adr μ), os, r', renum_ok hin [] rs (by rw [hks]; rfl), ?_⟩
  have ext : ∀ {F' H' : Hp}, Ext (ks.map (adr μ)) F H F' H' → Ext μ F H F' H' := fun x => ⟨x.fs, x.fn, fun a o h n m => x.keep a o h n (fun z => m (hin a z)), x.live⟩
  have rel : ∀ {F' H' : Hp} {os' : Store}, Ext (ks.map (adr μ)) F H F' H' → Rel K F' (ks.map (adr μ)) os' H' → Rel K F' μ (putAll S ks os') H' := fun {F' H' os'} x r1 => by
    have hl2 : ks.length = os'.length := by have := r1.len; rw [List.length_map] at this; exact this
    refine ⟨r1.sub, by rw [putAll_len]; exact r.len, r.nd, fun k a xs e1 e2 => ?_, fun a ha => ?_⟩
    · by_cases hk : k ∈ ks
      · obtain ⟨i, hi⟩ := List.mem_iff_getElem?.mp hk
        rw [putAll_in nd hl2 (fun k hk => by obtain ⟨c, hc⟩ := hv k hk; rw [← r.len]; exact (List.getElem?_eq_some_iff.mp hc).1) hi] at e2
        exact r1.obj i a xs (by rw [List.getElem?_map, hi]; show some (adr μ k) = some a; rw [adr_of e1]) e2
      · rw [putAll_out hk] at e2
        obtain ⟨ws, h1, h2⟩ := r.obj k a xs e1 e2
        have na : a ∉ ks.map (adr μ) := fun z => by
          obtain ⟨j, hj, e⟩ := List.mem_map.mp z
          obtain ⟨c, hc⟩ := hv j hj
          rw [adr_of hc] at e
          subst e
          obtain ⟨l1, q1⟩ := List.getElem?_eq_some_iff.mp e1
          obtain ⟨l2, q2⟩ := List.getElem?_eq_some_iff.mp hc
          have := (List.getElem_inj r.nd).mp (q1.trans q2.symm)
          subst this
          exact hk hj
        exact ⟨ws, x.keep a _ h1 (fun _ z => by cases z) na, h2.mono x.fs⟩
    · rw [x.fn a (r.live ha)]; exact r.dis a ha
  cases q : m (renum bs 0) os with
  | ok b os' =>
    rw [q] at hm
    have hm : okE K xc μ W F H σ (match b.give with | some b => .ok b (putAll S ks os') | none => .bad) Q := hm
    intro F' H' v x r1 bv fr
    cases b with
    | t d => exact hm F' H' v (ext x) (rel x r1) bv fr
    | own d =>
      obtain ⟨a, xs, ds, e1, e2, e3, e4, e5, e6⟩ := bv
      exact hm F' H' v (ext x) (rel x r1) ⟨a, xs, ds, e1, e2, e3, e4, e5, (r.out (fr a e1)).2⟩ fr
    | bor d => exact hm.elim
    | sc d => exact hm.elim
    | r k => exact hm.elim
  | ex c p os' =>
    rw [q] at hm
    exact fun F' H' cls d x r1 xr => hm F' H' cls d (ext x) (rel x r1) xr
  | bad =>
    rw [q] at hm
    exact hm.elim
/-- f(..), f a def of the text -/
theorem pe_callM {k : Nat} {f : Addr} {m : List B → Store → R B} {ma : Env → Store → R (List B)} {x : Str} {p pos : Pos} {e : Expr} {es : List Expr} (Fc : FnC X.prog X.w X.K X.mg X.base xc k f m) (hr : Room k X.A) (hgd : X.A.guards = some []) (tk : Takes X W)
    (hg : L2.Gl X x) (hmg : X.mg x = some (.ref f)) (hk : PySem.W.keepIn X.K (.ref f) = true) (ha : PA X (e :: es) (tML X.K xc W ma)) (hdb : (x == ("__debug__" : Str)) = false)
    (he : starEach (e :: es) X.env = (false, eval e X.env) :: starEach es X.env) (hpl : (backTo pos (starEach es X.env)).any (·.1) = false) :
    PE X (.Call (.Name x p) (e :: es) [] pos) (tM X.K xc W fun ρ s => (ma ρ s).bind fun bs s => callS m bs s) := by
  refine ⟨fun pins s σ H Q I h => ?_⟩
  obtain ⟨F, μ, S, ρ, rel, er, h⟩ := h
  have run : ∀ {us : List Value} {vs : List V} {s1 : Shared} {H1 : Hp}, Inv X pins σ H1 s1 → Vals vs us → (∃ F1 μ S1 bs, Rel X.K F1 μ S1 H1 ∧ BRs X.K F1 μ H1 vs bs ∧ okE X.K xc μ W F1 H1 σ (callS m bs S1) Q) →
      wpAny (model X.prog X.w) X.A (call (.ref f) us) (EP X pins σ Q) X.xe s1 := by
    rintro us vs s1 H1 I1 rv ⟨F1, μ1, S1, bs, r1, b1, h1⟩
    obtain ⟨μ', os, r2, b2, h2⟩ := callS_ok h1 r1 b1
    refine wpAny_call (codeAny_mono (Fc.run X.A X.stack s1 H1 us vs F1 μ' os _ Q _ hr hgd I1.env0 rv r2 b2 h2) fun r s' hq => ?_)
    cases r with
    | error e => exact tk e s' (XE.of_call I1 (fun cls d H' h => h) hq)
    | ok fl =>
      cases fl with
      | ret u => exact I1.after hq
      | next => exact False.elim hq
      | brk => exact False.elim hq
      | cont => exact False.elim hq
  have har : tML X.K xc W ma σ H (fun vs H1 => ∃ F1 μ S1 bs, Rel X.K F1 μ S1 H1 ∧ BRs X.K F1 μ H1 vs bs ∧ okE X.K xc μ W F1 H1 σ (callS m bs S1) Q) :=
    ⟨F, μ, S, ρ, rel, er, okL_bind h fun F1 H1 vs bs S1 e1 r1 b1 h1 => ⟨F1, μ, S1, bs, r1, b1, h1⟩⟩
  refine wpAny_Call_Name_kw (ld_glob I hg hmg ?_ hdb)
  refine PySem.W.callWith_K (h₀ := X.base) I.ok.mod.kin hk (thn (ha.run pos pins s σ H _ I har) fun us s1 ⟨vs, H1, I1, r, q⟩ => ⟨I1.kIn, ?_⟩) he hpl
  exact run I1 r q
/-- f() -/
theorem pe_callM0 {k : Nat} {f : Addr} {m : List B → Store → R B} {x : Str} {p pos : Pos} (Fc : FnC X.prog X.w X.K X.mg X.base xc k f m) (hr : Room k X.A) (hgd : X.A.guards = some []) (tk : Takes X W)
    (hg : L2.Gl X x) (hmg : X.mg x = some (.ref f)) (hk : PySem.W.keepIn X.K (.ref f) = true) (hdb : (x == ("__debug__" : Str)) = false) :
    PE X (.Call (.Name x p) [] [] pos) (tM X.K xc W fun ρ s => callS m [] s) := by
  refine ⟨fun pins s σ H Q I h => ?_⟩
  obtain ⟨F, μ, S, ρ, rel, er, h⟩ := h
  refine wpAny_Call_Name_kw (ld_glob I hg hmg ?_ hdb)
  refine PySem.W.callWith_K0 I.kIn hk ?_
  obtain ⟨μ', os, r2, b2, h2⟩ := callS_ok h rel .nil
  refine wpAny_call (codeAny_mono (Fc.run X.A X.stack s H [] [] F μ' os _ Q _ hr hgd I.env0 .nil r2 b2 h2) fun r s' hq => ?_)
  cases r with
  | error e => exact tk e s' (XE.of_call I (fun cls d H' h => h) hq)
  | ok fl =>
    cases fl with
    | ret u => exact I.after hq
    | next => exact False.elim hq
    | brk => exact False.elim hq
    | cont => exact False.elim hq
end
end Zw
set_option Elab.async false
set_option linter.all false
set_option maxRecDepth 100000
/-! Zw4: expressions of the text against the core, one rule each. -/
namespace Zw
open PySem PySem.Spec PyProof.Rows L2
theorem R.bind_assoc {α β γ : Type} (r : R α) (f : α → Store → R β) (g : β → Store → R γ) : (r.bind f).bind g = r.bind fun a s => (f a s).bind g := by
  cases r <;> rfl
section
variable {X : Cx} {K : PySem.W.Frag} {xc : Nat → Option XCls} {W : WX} {F : Hp} {μ : List Addr} {S : Store} {H : Hp} {σ : L2.St} {ρ : Env} {G : Gx}
/-! ### names, constants -/
theorem r_var {i : Nat} {x : Str} {pos : Pos} (h : PE X (.Name x pos) (tVar i)) : PE X (.Name x pos) (tM X.K xc W (ev G (.var i))) := by
  refine PE.weak h fun σ H Q q => ?_
  obtain ⟨F, μ, S, ρ, rel, er, q⟩ := q
  have q : okE X.K xc μ W F H σ (.of (readV ρ[i]?) S) Q := by simpa [ev] using q
  cases e : ρ[i]? with
  | none => rw [e] at q; exact q.elim
  | some o => cases o with
    | none => rw [e] at q; exact q.elim
    | some b =>
      rw [e] at q
      obtain ⟨v, h1, h2⟩ := er.val i b e
      refine ⟨v, h1, ?_⟩
      cases b with
      | own d => exact okE_val (b := .bor d) q rel h2 trivial
      | t d => exact okE_val q rel h2 trivial
      | bor d => exact okE_val q rel h2 trivial
      | sc d => exact okE_val q rel h2 trivial
      | r k => exact okE_val q rel h2 trivial
theorem r_val {e : Expr} {v : V} {d : D} (h : PE X e (tC v)) (r : ∀ F, Rp X.K F v d) {m : Env → Store → R B} (hm : ∀ ρ s, m ρ s = .ok (.t d) s) : PE X e (tM X.K xc W m) := by
  refine PE.weak h fun σ H Q q => ?_
  obtain ⟨F, μ, S, ρ, rel, er, q⟩ := q
  rw [hm] at q
  exact okE_val q rel (r F) trivial
/-- a constant of the text -/
def constD : Const → Option D
  | .none => some .non
  | .bool b => some (.bl b)
  | .int i => some (.int i)
  | .str s => some (.str s)
  | _ => none
theorem r_cst {k : Const} {d : D} {j} {pos : Pos} (h : constD k = some d) : PE X (.Constant k j pos) (tM X.K xc W (ev G (.cst d))) := by
  have hm : ∀ ρ s, ev G (.cst d) ρ s = .ok (.t d) s := fun ρ s => by simp [ev]
  unfold constD at h
  split at h
  · cases h; exact r_val pe_non (fun _ => .non) hm
  · cases h; exact r_val pe_bl (fun _ => .bl _) hm
  · cases h; exact r_val pe_int (fun _ => .int _) hm
  · cases h; exact r_val pe_str (fun _ => .str _) hm
  · cases h
/-! ### operators -/
theorem r_bin {a b : Expr} {ca cb : CE} {op : Op2} {o : Operator} {r : R2} {pos : Pos} (ho : OpR X (binaryOp o) r) (ha : PE X a (tM X.K xc W (ev G ca))) (hb : PE X b (tM X.K xc W (ev G cb)))
    (hop : ∀ σ F μ S H x y bx bY (Q : VK), Rel X.K F μ S H → BRp X.K F μ H x bx → BRp X.K F μ H y bY → okE X.K xc μ W F H σ (g2 op bx bY S) Q → r x y H Q) :
    PE X (.BinOp a o b pos) (tM X.K xc W (ev G (.bin op ca cb))) :=
  PE.weak (pe_op ho ha hb) fun σ H Q q => bin_rd (g := g2 op) (hop σ) (by
    have e : ev G (.bin op ca cb) = fun ρ s => (ev G ca ρ s).bind fun x s => (ev G cb ρ s).bind fun y s => g2 op x y s := by funext ρ s; simp [ev, g2]
    rw [e] at q; exact q)
/-- which operator of the text an operator of the core is -/
def opOf : Op2 → Operator
  | .add => .Add
  | .sub => .Sub
  | .mul => .Mult
  | .mod => .Mod
  | .fdiv => .FloorDiv
  | .pow => .Pow
theorem r_binAll {a b : Expr} {ca cb : CE} {op : Op2} {pos : Pos} (ha : PE X a (tM X.K xc W (ev G ca))) (hb : PE X b (tM X.K xc W (ev G cb))) : PE X (.BinOp a (opOf op) b pos) (tM X.K xc W (ev G (.bin op ca cb))) := by
  cases op with
  | add => exact r_bin op_addA ha hb fun σ F μ S H x y bx bY Q r hx hy h => hop_add r hx hy h
  | sub => exact r_bin op_sub ha hb fun σ F μ S H x y bx bY Q r hx hy h => hop_sub r hx hy h
  | mul => exact r_bin op_mulA ha hb fun σ F μ S H x y bx bY Q r hx hy h => hop_mul r hx hy h
  | mod => exact r_bin op_mod ha hb fun σ F μ S H x y bx bY Q r hx hy h => hop_mod r hx hy h
  | fdiv => exact r_bin op_fdivW ha hb fun σ F μ S H x y bx bY Q r hx hy h => hop_fdiv r hx hy h
  | pow => exact r_bin op_powX ha hb fun σ F μ S H x y bx bY Q r hx hy h => hop_pow r hx hy h
def cmOf : Cm → CmpOp
  | .eq => .Eq
  | .ne => .NotEq
  | .lt => .Lt
  | .le => .LtE
  | .gt => .Gt
  | .ge => .GtE
  | .isN => .Is
  | .notN => .IsNot
  | .in_ => .In
  | .notIn => .NotIn
/-- a comparison's rule by values -/
structure CmR (X : Cx) (xc : Nat → Option XCls) (W : WX) (op : Cm) (r : R2) : Prop where
  rule : OpR X (compareOp (cmOf op)) r
  hop : ∀ σ F μ S H x y bx bY (Q : VK), Rel X.K F μ S H → BRp X.K F μ H x bx → BRp X.K F μ H y bY → okE X.K xc μ W F H σ (c2 op bx bY S) Q → r x y H Q
theorem cmR {k : Nat} (hr : Room k X.A) (op : Cm) : ∃ r, CmR X xc W op r := by
  have hu := hr.un
  cases op with
  | eq => exact ⟨_, (op_eqD (by omega)).or op_eq, fun σ F μ S H x y bx bY Q r hx hy h => hop_eq r hx hy h⟩
  | ne => exact ⟨_, (op_neD (by omega)).or op_ne, fun σ F μ S H x y bx bY Q r hx hy h => hop_ne r hx hy h⟩
  | lt => exact ⟨_, op_ltA (by omega), fun σ F μ S H x y bx bY Q r hx hy h => hop_lt r hx hy h⟩
  | le => exact ⟨_, op_le, fun σ F μ S H x y bx bY Q r hx hy h => hop_cmI rfl r hx hy h⟩
  | gt => exact ⟨_, op_gt, fun σ F μ S H x y bx bY Q r hx hy h => hop_cmI rfl r hx hy h⟩
  | ge => exact ⟨_, op_ge, fun σ F μ S H x y bx bY Q r hx hy h => hop_cmI rfl r hx hy h⟩
  | isN => exact ⟨_, op_isN, fun σ F μ S H x y bx bY Q r hx hy h => hop_isN r hx hy h⟩
  | notN => exact ⟨_, op_notN, fun σ F μ S H x y bx bY Q r hx hy h => hop_notN r hx hy h⟩
  | in_ => exact ⟨_, op_in_seq, fun σ F μ S H x y bx bY Q r hx hy h => hop_in (k := true) rfl r hx hy h⟩
  | notIn => exact ⟨_, op_notIn_seq, fun σ F μ S H x y bx bY Q r hx hy h => hop_in (k := false) rfl r hx hy h⟩
theorem ev_cmp {op : Cm} {ca cb : CE} : ev G (.cmp op ca cb) = fun ρ s => (ev G ca ρ s).bind fun x s => (ev G cb ρ s).bind fun y s => c2 op x y s := by
  funext ρ s; simp [ev, c2]
theorem r_cmp {k : Nat} {a b : Expr} {ca cb : CE} {op : Cm} {pos : Pos} (hr : Room k X.A) (ha : PE X a (tM X.K xc W (ev G ca))) (hb : PE X b (tM X.K xc W (ev G cb))) (hm : behindInMarks (cmOf op) b = false) :
    PE X (.Compare a [cmOf op] [b] pos) (tM X.K xc W (ev G (.cmp op ca cb))) := by
  obtain ⟨r, c⟩ := cmR (X := X) (xc := xc) (W := W) hr op
  exact PE.weak (pe_cmpR c.rule ha hb hm) fun σ H Q q => bin_rd (g := c2 op) (c.hop σ) (by rw [ev_cmp] at q; exact q)
/-! ### tests -/
/-- a test's reading by the truth of a value -/
theorem tru_rd {m : Env → Store → R B} {Q : Bool → Hp → Prop} (h : tMT K xc W (fun ρ s => (m ρ s).bind fun x s => .of (truB x s) s) σ H Q) : tM K xc W m σ H (fun v H1 => ∃ k, TruV K v H1 k ∧ Q k H1) := by
  obtain ⟨F, μ, S, ρ, rel, er, h⟩ := h
  refine ⟨F, μ, S, ρ, rel, er, okE_bindT h fun F1 H1 v b S1 e1 r1 b1 f1 h1 => ?_⟩
  cases q : truB b S1 with
  | none => rw [q] at h1; exact h1.elim
  | some k => rw [q] at h1; exact ⟨k, tru_of r1 b1 q, h1 F1 H1 (Ext.refl _ _ _) r1⟩
/-- a value that is a bool whatever -/
def IsBl (m : Env → Store → R B) : Prop := ∀ ρ s b s', m ρ s = .ok b s' → ∃ k, b = .t (.bl k)
theorem tru_rdB {m : Env → Store → R B} (hb : IsBl m) {Q : Bool → Hp → Prop} (h : tMT K xc W (fun ρ s => (m ρ s).bind fun x s => .of (truB x s) s) σ H Q) : tM K xc W m σ H (fun v H1 => ∃ k, v = .bl k ∧ Q k H1) := by
  obtain ⟨F, μ, S, ρ, rel, er, h⟩ := h
  refine ⟨F, μ, S, ρ, rel, er, ?_⟩
  have hb2 := hb ρ S
  cases q : m ρ S with
  | ok b S1 =>
    simp only [q, R.bind] at h
    obtain ⟨k, rfl⟩ := hb2 b S1 q
    exact fun F' H' v x r bv _ => ⟨k, rp_bl bv, h F' H' x r⟩
  | ex c p S1 => simp only [q, R.bind] at h; exact h
  | bad => simp only [q, R.bind] at h; exact h
theorem isBl_cmp {op : Cm} {ca cb : CE} : IsBl (ev G (.cmp op ca cb)) := by
  intro ρ s b s' h
  rw [ev_cmp] at h
  dsimp only at h
  cases q : ev G ca ρ s with
  | ok x s1 =>
    rw [q] at h
    simp only [R.bind] at h
    cases q2 : ev G cb ρ s1 with
    | ok y s2 =>
      rw [q2] at h
      simp only [c2] at h
      cases q3 : (x.peek s2).bind fun x => (y.peek s2).bind fun y => (cmp2 op x y).map fun b => B.t (.bl b) with
      | none => rw [q3] at h; cases h
      | some z =>
        rw [q3] at h
        cases h
        cases e1 : x.peek s' with
        | none => rw [e1] at q3; cases q3
        | some d1 =>
          rw [e1] at q3
          cases e2 : y.peek s' with
          | none => rw [e2] at q3; cases q3
          | some d2 =>
            rw [e2] at q3
            obtain ⟨k, _, e⟩ := Option.map_eq_some_iff.mp (show (cmp2 op d1 d2).map (fun b => B.t (.bl b)) = some _ from q3)
            exact ⟨k, e.symm⟩
    | ex c p s2 => rw [q2] at h; cases h
    | bad => rw [q2] at h; cases h
  | ex c p s1 => rw [q] at h; cases h
  | bad => rw [q] at h; cases h
theorem t_cmp {k : Nat} {a b : Expr} {ca cb : CE} {op : Cm} {pos : Pos} (hr : Room k X.A) (ha : PE X a (tM X.K xc W (ev G ca))) (hb : PE X b (tM X.K xc W (ev G cb))) (hm : behindInMarks (cmOf op) b = false) :
    PT X (.Compare a [cmOf op] [b] pos) (tMT X.K xc W (evT G (.cmp op ca cb))) := by
  obtain ⟨r, c⟩ := cmR (X := X) (xc := xc) (W := W) hr op
  refine PT.weak (pt_cmpR c.rule ha hb hm) fun σ H Q q => ?_
  have q2 := tru_rdB (m := ev G (.cmp op ca cb)) isBl_cmp q
  rw [ev_cmp] at q2
  exact bin_rd (g := c2 op) (c.hop σ) q2
theorem t_val {a : Expr} {ca : CE} (ha : PE X a (tM X.K xc W (ev G ca))) (he : ∀ whole, isTrue a X.env whole = (do let v ← whole; standAt a.pos; holding [v] (truthy v))) : PT X a (tMT X.K xc W (evT G ca)) :=
  PT.weak (pt_truth ha he) fun σ H Q q => tru_rd q
theorem evT_not {ca : CE} {ρ : Env} {s : Store} : evT G (.notv ca) ρ s = (evT G ca ρ s).bind fun k s => .ok (!k) s := by
  unfold evT
  rw [show ev G (.notv ca) ρ s = (ev G ca ρ s).bind fun x s => .of ((truB x s).map fun b => .t (.bl (!b))) s from rfl]
  cases ev G ca ρ s with
  | ok x s1 =>
    simp only [R.bind]
    cases truB x s1 <;> rfl
  | ex c p s1 => rfl
  | bad => rfl
theorem okT_bindT {r : R Bool} {g : Bool → Store → R Bool} {Q R' : Bool → Hp → Prop} (h : okT K xc μ W F H σ (r.bind g) Q)
    (k : ∀ F1 H1 b S1, Ext μ F H F1 H1 → Rel K F1 μ S1 H1 → okT K xc μ W F1 H1 σ (g b S1) Q → R' b H1) : okT K xc μ W F H σ r R' := by
  cases r with
  | ok b S1 =>
    refine fun F1 H1 x r1 => k F1 H1 b S1 x r1 ?_
    have h2 : okT K xc μ W F H σ (g b S1) Q := h
    cases q : g b S1 with
    | ok ds S2 => rw [q] at h2; exact fun F' H' e r => h2 F' H' (x.trans e) r
    | ex c p S2 => rw [q] at h2; exact fun F' H' cls d e r q => h2 F' H' cls d (x.trans e) r q
    | bad => rw [q] at h2; exact h2
  | ex c p S1 => exact h
  | bad => exact h
theorem okT_val {S : Store} {k : Bool} {Q : Bool → Hp → Prop} (h : okT K xc μ W F H σ (.ok k S) Q) (r : Rel K F μ S H) : Q k H := h F H (Ext.refl _ _ _) r
theorem t_not {a : Expr} {ca : CE} {pos : Pos} (ha : PT X a (tMT X.K xc W (evT G ca))) : PT X (.UnaryOp .Not a pos) (tMT X.K xc W (evT G (.notv ca))) := by
  refine PT.weak (pt_not ha) fun σ H Q q => ?_
  obtain ⟨F, μ, S, ρ, rel, er, h⟩ := q
  rw [evT_not] at h
  exact ⟨F, μ, S, ρ, rel, er, okT_bindT h fun F1 H1 b S1 e1 r1 h1 => okT_val h1 r1⟩
theorem evT_and {c c' : CE} {cs : List CE} {ρ : Env} {s : Store} : evT G (.andv (c :: c' :: cs)) ρ s = (evT G c ρ s).bind fun k s => if k then evT G (.andv (c' :: cs)) ρ s else .ok false s := by
  unfold evT
  rw [show ev G (.andv (c :: c' :: cs)) ρ s = (ev G c ρ s).bind fun x s => match truB x s with
      | some true => evAnd G (c' :: cs) ρ s
      | some false => .ok x s
      | none => .bad from rfl]
  cases ev G c ρ s with
  | ok x s1 =>
    simp only [R.bind]
    cases q : truB x s1 with
    | none => rfl
    | some k => cases k with
      | true => simp [R.of, ev]
      | false => simp [R.of, R.bind, q]
  | ex c p s1 => rfl
  | bad => rfl
theorem evT_or {c c' : CE} {cs : List CE} {ρ : Env} {s : Store} : evT G (.orv (c :: c' :: cs)) ρ s = (evT G c ρ s).bind fun k s => if k then .ok true s else evT G (.orv (c' :: cs)) ρ s := by
  unfold evT
  rw [show ev G (.orv (c :: c' :: cs)) ρ s = (ev G c ρ s).bind fun x s => match truB x s with
      | some false => evOr G (c' :: cs) ρ s
      | some true => .ok x s
      | none => .bad from rfl]
  cases ev G c ρ s with
  | ok x s1 =>
    simp only [R.bind]
    cases q : truB x s1 with
    | none => rfl
    | some k => cases k with
      | false => simp [R.of, ev]
      | true => simp [R.of, R.bind, q]
  | ex c p s1 => rfl
  | bad => rfl
theorem evT_and1 {c : CE} {ρ : Env} {s : Store} : evT G (.andv [c]) ρ s = evT G c ρ s := by unfold evT; simp [ev, evAnd]
theorem evT_or1 {c : CE} {ρ : Env} {s : Store} : evT G (.orv [c]) ρ s = evT G c ρ s := by unfold evT; simp [ev, evOr]
theorem t_and1 {a : Expr} {c : CE} {pos : Pos} (ha : PT X a (tMT X.K xc W (evT G c))) : PW X (.BoolOp .And [a] pos) (tMT X.K xc W (evT G (.andv [c]))) :=
  PW.weak (pw_and1 ha) fun σ H Q ⟨F, μ, S, ρ, rel, er, h⟩ => ⟨F, μ, S, ρ, rel, er, by rw [evT_and1] at h; exact h⟩
theorem t_or1 {a : Expr} {c : CE} {pos : Pos} (ha : PT X a (tMT X.K xc W (evT G c))) : PW X (.BoolOp .Or [a] pos) (tMT X.K xc W (evT G (.orv [c]))) :=
  PW.weak (pw_or1 ha) fun σ H Q ⟨F, μ, S, ρ, rel, er, h⟩ => ⟨F, μ, S, ρ, rel, er, by rw [evT_or1] at h; exact h⟩
theorem t_and {a b : Expr} {es : List Expr} {c c' : CE} {cs : List CE} {pos : Pos} (ha : PT X a (tMT X.K xc W (evT G c))) (hb : PW X (.BoolOp .And (b :: es) pos) (tMT X.K xc W (evT G (.andv (c' :: cs))))) :
    PW X (.BoolOp .And (a :: b :: es) pos) (tMT X.K xc W (evT G (.andv (c :: c' :: cs)))) := by
  refine PW.weak (pw_and ha hb) fun σ H Q ⟨F, μ, S, ρ, rel, er, h⟩ => ⟨F, μ, S, ρ, rel, er, ?_⟩
  rw [evT_and] at h
  refine okT_bindT h fun F1 H1 k S1 e1 r1 h1 => ?_
  cases k with
  | true => exact ⟨F1, μ, S1, ρ, r1, er.step e1, h1⟩
  | false => exact okT_val h1 r1
theorem t_or {a b : Expr} {es : List Expr} {c c' : CE} {cs : List CE} {pos : Pos} (ha : PT X a (tMT X.K xc W (evT G c))) (hb : PW X (.BoolOp .Or (b :: es) pos) (tMT X.K xc W (evT G (.orv (c' :: cs))))) :
    PW X (.BoolOp .Or (a :: b :: es) pos) (tMT X.K xc W (evT G (.orv (c :: c' :: cs)))) := by
  refine PW.weak (pw_or ha hb) fun σ H Q ⟨F, μ, S, ρ, rel, er, h⟩ => ⟨F, μ, S, ρ, rel, er, ?_⟩
  rw [evT_or] at h
  refine okT_bindT h fun F1 H1 k S1 e1 r1 h1 => ?_
  cases k with
  | false => exact ⟨F1, μ, S1, ρ, r1, er.step e1, h1⟩
  | true => exact okT_val h1 r1
/-! ### not, and, or as values; a if t else b; a < b < c -/
theorem r_neg {a : Expr} {ca : CE} {pos : Pos} (ha : PE X a (tM X.K xc W (ev G ca))) : PE X (.UnaryOp .USub a pos) (tM X.K xc W (ev G (.neg ca))) := by
  refine PE.weak (pe_un un_neg ha) fun σ H Q ⟨F, μ, S, ρ, rel, er, h⟩ => ⟨F, μ, S, ρ, rel, er, ?_⟩
  rw [show ev G (.neg ca) ρ S = (ev G ca ρ S).bind fun x s => match x with
      | .t (.int i) => .ok (.t (.int (-i))) s
      | _ => .bad from rfl] at h
  refine okE_bind h fun F1 H1 v b S1 e1 r1 b1 f1 h1 => ?_
  split at h1
  · rename_i i
    exact ⟨i, rp_int b1, okE_val h1 r1 (.int _) trivial⟩
  · exact h1.elim
theorem r_not {a : Expr} {ca : CE} {pos : Pos} (ha : PE X a (tM X.K xc W (ev G ca))) : PE X (.UnaryOp .Not a pos) (tM X.K xc W (ev G (.notv ca))) := by
  refine PE.weak (pe_notT ha) fun σ H Q ⟨F, μ, S, ρ, rel, er, h⟩ => ⟨F, μ, S, ρ, rel, er, ?_⟩
  rw [show ev G (.notv ca) ρ S = (ev G ca ρ S).bind fun x s => .of ((truB x s).map fun b => .t (.bl (!b))) s from rfl] at h
  refine okE_bind h fun F1 H1 v b S1 e1 r1 b1 f1 h1 => ?_
  cases q : truB b S1 with
  | none => rw [q] at h1; exact h1.elim
  | some k => rw [q] at h1; exact ⟨k, tru_of r1 b1 q, okE_val h1 r1 (.bl _) trivial⟩
theorem r_and1 {op : BoolOp} {a : Expr} {c : CE} {pos : Pos} (ha : PE X a (tM X.K xc W (ev G c))) : PE X (.BoolOp op [a] pos) (tM X.K xc W (ev G c)) := pe_one ha
theorem r_and {a b : Expr} {es : List Expr} {c c' : CE} {cs : List CE} {pos : Pos} (ha : PE X a (tM X.K xc W (ev G c))) (hb : PE X (.BoolOp .And (b :: es) pos) (tM X.K xc W (ev G (.andv (c' :: cs))))) :
    PE X (.BoolOp .And (a :: b :: es) pos) (tM X.K xc W (ev G (.andv (c :: c' :: cs)))) := by
  refine PE.weak (pe_andT ha hb) fun σ H Q ⟨F, μ, S, ρ, rel, er, h⟩ => ⟨F, μ, S, ρ, rel, er, ?_⟩
  rw [show ev G (.andv (c :: c' :: cs)) ρ S = (ev G c ρ S).bind fun x s => match truB x s with
      | some true => ev G (.andv (c' :: cs)) ρ s
      | some false => .ok x s
      | none => .bad from rfl] at h
  refine okE_bind0 h fun F1 H1 v b S1 e1 r1 b1 f1 h1 => ?_
  cases q : truB b S1 with
  | none => rw [q] at h1; exact h1.elim
  | some k =>
    rw [q] at h1
    cases k with
    | true => exact ⟨true, tru_of r1 b1 q, ⟨F1, μ, S1, ρ, r1, er.step e1, okE.step e1 h1⟩⟩
    | false => exact ⟨false, tru_of r1 b1 q, h1 F1 H1 v e1 r1 b1 f1⟩
theorem r_or {a b : Expr} {es : List Expr} {c c' : CE} {cs : List CE} {pos : Pos} (ha : PE X a (tM X.K xc W (ev G c))) (hb : PE X (.BoolOp .Or (b :: es) pos) (tM X.K xc W (ev G (.orv (c' :: cs))))) :
    PE X (.BoolOp .Or (a :: b :: es) pos) (tM X.K xc W (ev G (.orv (c :: c' :: cs)))) := by
  refine PE.weak (pe_orT ha hb) fun σ H Q ⟨F, μ, S, ρ, rel, er, h⟩ => ⟨F, μ, S, ρ, rel, er, ?_⟩
  rw [show ev G (.orv (c :: c' :: cs)) ρ S = (ev G c ρ S).bind fun x s => match truB x s with
      | some false => ev G (.orv (c' :: cs)) ρ s
      | some true => .ok x s
      | none => .bad from rfl] at h
  refine okE_bind0 h fun F1 H1 v b S1 e1 r1 b1 f1 h1 => ?_
  cases q : truB b S1 with
  | none => rw [q] at h1; exact h1.elim
  | some k =>
    rw [q] at h1
    cases k with
    | false => exact ⟨false, tru_of r1 b1 q, ⟨F1, μ, S1, ρ, r1, er.step e1, okE.step e1 h1⟩⟩
    | true => exact ⟨true, tru_of r1 b1 q, h1 F1 H1 v e1 r1 b1 f1⟩
theorem okT_bind0 {r : R Bool} {g : Bool → Store → R B} {Q : VK} {R' : Bool → Hp → Prop} (h : okE K xc μ W F H σ (r.bind g) Q)
    (k : ∀ F1 H1 b S1, Ext μ F H F1 H1 → Rel K F1 μ S1 H1 → okE K xc μ W F H σ (g b S1) Q → R' b H1) : okT K xc μ W F H σ r R' := by
  cases r with
  | ok b S1 => exact fun F1 H1 x r1 => k F1 H1 b S1 x r1 h
  | ex c p S1 => exact h
  | bad => exact h
theorem r_ife {c a b : Expr} {cc ca cb : CE} {pos : Pos} (hc : PT X c (tMT X.K xc W (evT G cc))) (ha : PE X a (tM X.K xc W (ev G ca))) (hb : PE X b (tM X.K xc W (ev G cb))) :
    PE X (.IfExp c a b pos) (tM X.K xc W (ev G (.ife cc ca cb))) := by
  refine PE.weak (pe_ifExp hc ha hb) fun σ H Q ⟨F, μ, S, ρ, rel, er, h⟩ => ⟨F, μ, S, ρ, rel, er, ?_⟩
  have e : ev G (.ife cc ca cb) ρ S = (evT G cc ρ S).bind fun k s => if k then ev G ca ρ s else ev G cb ρ s := by
    rw [show ev G (.ife cc ca cb) ρ S = (ev G cc ρ S).bind fun x s => match truB x s with
      | some true => ev G ca ρ s
      | some false => ev G cb ρ s
      | none => .bad from rfl]
    unfold evT
    cases ev G cc ρ S with
    | ok x s1 =>
      simp only [R.bind]
      cases truB x s1 with
      | none => rfl
      | some k => cases k <;> rfl
    | ex c p s1 => rfl
    | bad => rfl
  rw [e] at h
  refine okT_bind0 h fun F1 H1 k S1 e1 r1 h1 => ?_
  cases k with
  | true => exact ⟨F1, μ, S1, ρ, r1, er.step e1, okE.step e1 h1⟩
  | false => exact ⟨F1, μ, S1, ρ, r1, er.step e1, okE.step e1 h1⟩
/-- a < b < c: the readings -/
def c2o (op : Cm) (x y : B) (s : Store) : Option Bool := (x.peek s).bind fun x => (y.peek s).bind fun y => cmp2 op x y
theorem c2_eq {op : Cm} {x y : B} {s : Store} : c2 op x y s = .of ((c2o op x y s).map fun b => .t (.bl b)) s := by
  unfold c2 c2o
  cases x.peek s with
  | none => rfl
  | some d => cases y.peek s with
    | none => rfl
    | some e => rfl
theorem chain_rd {k : Nat} (hr : Room k X.A) {a b c : Expr} {ca cb cc : CE} {o1 o2 : Cm} {r1 r2 : R2} (C1 : CmR X xc W o1 r1) (C2 : CmR X xc W o2 r2) {Q : VK} (h : tM X.K xc W (ev G (.chain o1 o2 ca cb cc)) σ H Q) :
    tChain r1 r2 (tM X.K xc W (ev G ca)) (tM X.K xc W (ev G cb)) (tM X.K xc W (ev G cc)) σ H Q := by
  obtain ⟨F, μ, S, ρ, rel, er, h⟩ := h
  rw [show ev G (.chain o1 o2 ca cb cc) ρ S = (ev G ca ρ S).bind fun x s => (ev G cb ρ s).bind fun y s =>
      match c2o o1 x y s with
      | some true => (ev G cc ρ s).bind fun z s => c2 o2 y z s
      | some false => .ok (.t (.bl false)) s
      | none => .bad from rfl] at h
  refine ⟨F, μ, S, ρ, rel, er, okE_bind h fun F1 H1 x bx S1 e1 q1 b1 f1 h1 => ⟨F1, μ, S1, ρ, q1, er.step e1, okE_bind h1 fun F2 H2 y bY S2 e2 q2 b2 f2 h2 => ?_⟩⟩
  cases q : c2o o1 bx bY S2 with
  | none => rw [q] at h2; exact h2.elim
  | some v =>
    rw [q] at h2
    refine C1.hop σ F2 μ S2 H2 x y bx bY _ q2 (b1.step e2) b2 ?_
    rw [c2_eq, q]
    intro F3 H3 z e3 q3 bz _
    refine ⟨v, rp_bl bz, ?_⟩
    cases v with
    | true =>
      refine ⟨F3, μ, S2, ρ, q3, (er.step (e1.trans e2)).step e3, ?_⟩
      have h2 := okE.step e3 h2
      exact okE_bind h2 fun F4 H4 z' bz' S4 e4 q4 b4 f4 h4 => C2.hop σ F4 μ S4 H4 y z' bY bz' Q q4 ((b2.step e3).step e4) b4 h4
    | false => exact h2 F3 H3 _ e3 q3 (.bl false) trivial
theorem r_chain {k : Nat} (hr : Room k X.A) {a b c : Expr} {ca cb cc : CE} {o1 o2 : Cm} {pos : Pos} (ha : PE X a (tM X.K xc W (ev G ca))) (hb : PE X b (tM X.K xc W (ev G cb))) (hc : PE X c (tM X.K xc W (ev G cc)))
    (hm : lastMarks [cmOf o1, cmOf o2] [b, c] = false) (h1 : behindInMarks (cmOf o1) b = false) (h2 : behindInMarks (cmOf o2) c = false) :
    PE X (.Compare a [cmOf o1, cmOf o2] [b, c] pos) (tM X.K xc W (ev G (.chain o1 o2 ca cb cc))) := by
  obtain ⟨r1, C1⟩ := cmR (X := X) (xc := xc) (W := W) hr o1
  obtain ⟨r2, C2⟩ := cmR (X := X) (xc := xc) (W := W) hr o2
  exact PE.weak (pe_chain C1.rule C2.rule ha hb hc hm) fun σ H Q q => chain_rd hr (a := a) (b := b) (c := c) C1 C2 q
theorem c2_bl {op : Cm} {x y : B} {s s' : Store} {b : B} (h : c2 op x y s = .ok b s') : ∃ k, b = .t (.bl k) := by
  rw [c2_eq] at h
  cases q : c2o op x y s with
  | none => rw [q] at h; cases h
  | some v => rw [q] at h; cases h; exact ⟨v, rfl⟩
theorem bind_ok {α β : Type} {r : R α} {f : α → Store → R β} {b : β} {s : Store} (h : r.bind f = .ok b s) : ∃ a s1, r = .ok a s1 ∧ f a s1 = .ok b s := by
  cases r with
  | ok a s1 => exact ⟨a, s1, rfl, h⟩
  | ex c p s1 => cases h
  | bad => cases h
theorem isBl_chain {o1 o2 : Cm} {ca cb cc : CE} : IsBl (ev G (.chain o1 o2 ca cb cc)) := by
  intro ρ s b s' h
  rw [show ev G (.chain o1 o2 ca cb cc) ρ s = (ev G ca ρ s).bind fun x s => (ev G cb ρ s).bind fun y s =>
      match c2o o1 x y s with
      | some true => (ev G cc ρ s).bind fun z s => c2 o2 y z s
      | some false => .ok (.t (.bl false)) s
      | none => .bad from rfl] at h
  obtain ⟨x, s1, _, h⟩ := bind_ok h
  obtain ⟨y, s2, _, h⟩ := bind_ok h
  cases q : c2o o1 x y s2 with
  | none => rw [q] at h; cases h
  | some v =>
    rw [q] at h
    cases v with
    | true =>
      obtain ⟨z, s3, _, h⟩ := bind_ok (show (ev G cc ρ s2).bind _ = _ from h)
      exact c2_bl h
    | false => cases h; exact ⟨false, rfl⟩
theorem t_chain {k : Nat} (hr : Room k X.A) {a b c : Expr} {ca cb cc : CE} {o1 o2 : Cm} {pos : Pos} (ha : PE X a (tM X.K xc W (ev G ca))) (hb : PE X b (tM X.K xc W (ev G cb))) (hc : PE X c (tM X.K xc W (ev G cc)))
    (hm : lastMarks [cmOf o1, cmOf o2] [b, c] = false) : PT X (.Compare a [cmOf o1, cmOf o2] [b, c] pos) (tMT X.K xc W (evT G (.chain o1 o2 ca cb cc))) := by
  obtain ⟨r1, C1⟩ := cmR (X := X) (xc := xc) (W := W) hr o1
  obtain ⟨r2, C2⟩ := cmR (X := X) (xc := xc) (W := W) hr o2
  exact PT.weak (pt_chain C1.rule C2.rule ha hb hc hm) fun σ H Q q => chain_rd hr (a := a) (b := b) (c := c) C1 C2 (tru_rdB isBl_chain q)
/-! ### displays -/
theorem d_nil : PA X [] (tMD X.K xc W (evs G [])) := PA.weak pa_nil fun σ H Q ⟨F, μ, S, ρ, rel, er, h⟩ => h F H [] (Ext.refl _ _ _) rel .nil
theorem okD_step {F1 H1 : Hp} {r : R (List D)} {Q : List V → Hp → Prop} (x : Ext μ F H F1 H1) (h : okD K xc μ W F H σ r Q) : okD K xc μ W F1 H1 σ r Q := by
  cases r with
  | ok b S' => exact fun F' H' v e r q => h F' H' v (x.trans e) r q
  | ex c p S' => exact fun F' H' cls d e r q => h F' H' cls d (x.trans e) r q
  | bad => exact h
theorem okD_map {r : R (List D)} {f : List D → List D} {Q R' : List V → Hp → Prop} (h : okD K xc μ W F H σ (r.bind fun xs s => .ok (f xs) s) Q)
    (k : ∀ F1 H1 vs ds S1, Ext μ F H F1 H1 → Rel K F1 μ S1 H1 → RpL K F1 vs ds → okD K xc μ W F1 H1 σ (.ok (f ds) S1) Q → R' vs H1) : okD K xc μ W F H σ r R' := by
  cases r with
  | ok b S1 => exact fun F1 H1 vs x r1 bv => k F1 H1 vs b S1 x r1 bv (okD_step x h)
  | ex c p S1 => exact h
  | bad => exact h
theorem d_cons {e : Expr} {es : List Expr} {c : CE} {cs : List (Bool × CE)} (he : PE X e (tM X.K xc W (ev G c))) (hes : PA X es (tMD X.K xc W (evs G cs))) (hs : starEach (e :: es) X.env = (false, eval e X.env) :: starEach es X.env) :
    PA X (e :: es) (tMD X.K xc W (evs G ((false, c) :: cs))) := by
  refine PA.weak (pa_cons he hes hs) fun σ H Q ⟨F, μ, S, ρ, rel, er, h⟩ => ⟨F, μ, S, ρ, rel, er, ?_⟩
  rw [show evs G ((false, c) :: cs) ρ S = (ev G c ρ S).bind fun x s => match x.frz with
        | some d => (evs G cs ρ s).bind fun xs s => .ok (d :: xs) s
        | none => .bad from rfl] at h
  have h2 : okD X.K xc μ W F H σ (((ev G c ρ S).bind fun x s => .ok x.still s).bind fun x s => match x with
        | .t d => (evs G cs ρ s).bind fun xs s => .ok (d :: xs) s
        | _ => .bad) Q := by
    rw [R.bind_assoc]
    cases q : ev G c ρ S with
    | ok x s1 =>
      rw [q] at h
      cases x with
      | t d => exact h
      | own d => exact h
      | bor d => exact h.elim
      | sc d => exact h.elim
      | r k => exact h.elim
    | ex c p s1 => rw [q] at h; exact h
    | bad => rw [q] at h; exact h
  have h3 : okE X.K xc μ W F H σ ((ev G c ρ S).bind fun x s => .ok x.still s) (fun x H1 => tMD X.K xc W (evs G cs) σ H1 fun xs H2 => Q (x :: xs) H2) := okE_bindD h2 fun F1 H1 v b S1 e1 r1 b1 f1 h1 => by
    cases b with
    | t d =>
      refine ⟨F1, μ, S1, ρ, r1, er.step e1, okD_map h1 fun F2 H2 vs ds S2 e2 r2 b2 h2 => ?_⟩
      exact h2 F2 H2 (v :: vs) (Ext.refl _ _ _) r2 (.cons (Rp.mono e2.fs b1) b2)
    | own d => exact h1.elim
    | bor d => exact h1.elim
    | sc d => exact h1.elim
    | r k => exact h1.elim
  exact okE_still h3
theorem d_star {e : Expr} {es : List Expr} {c : CE} {cs : List (Bool × CE)} {p : Pos} (he : PE X e (tM X.K xc W (ev G c))) (hes : PA X es (tMD X.K xc W (evs G cs))) :
    PA X (.Starred e p :: es) (tMD X.K xc W (evs G ((true, c) :: cs))) := by
  refine PA.weak (StX.pa_star he hes rfl) fun σ H Q ⟨F, μ, S, ρ, rel, er, h⟩ => ⟨F, μ, S, ρ, rel, er, ?_⟩
  rw [show evs G ((true, c) :: cs) ρ S = (ev G c ρ S).bind fun x s => match (x.look s).bind itemsD with
        | some ds => (evs G cs ρ s).bind fun xs s => .ok (ds ++ xs) s
        | none => .bad from rfl] at h
  refine okE_bindD h fun F1 H1 v b S1 e1 r1 b1 f1 h1 => ?_
  cases q : b.look S1 with
  | none => rw [q] at h1; exact h1.elim
  | some d =>
    rw [q] at h1
    have fin : ∀ {a : Addr} {xs : List V} {ds : List D}, v = .ref a → (SqT X.K H1 a xs ∨ SqL X.K H1 a xs) → RpL X.K F1 xs ds → okD X.K xc μ W F1 H1 σ ((evs G cs ρ S1).bind fun xs s => .ok (ds ++ xs) s) Q →
        ∃ p xs, v = V.ref p ∧ (SqT X.K H1 p xs ∨ SqL X.K H1 p xs) ∧ tMD X.K xc W (evs G cs) σ H1 fun ys H2 => Q (xs ++ ys) H2 := fun {a xs ds} ea hs rs h1 =>
      ⟨a, xs, ea, hs, F1, μ, S1, ρ, r1, er.step e1, okD_map h1 fun F2 H2 vs es' S2 e2 r2 b2 h2 => h2 F2 H2 (xs ++ vs) (Ext.refl _ _ _) r2 ((rs.mono e2.fs).append b2)⟩
    cases d with
    | tup ds =>
      obtain ⟨a, xs, ea, ha, ra⟩ := lk_tup r1 b1 q
      exact fin ea (.inl ha) ra h1
    | lst ds =>
      obtain ⟨a, xs, ea, ha, ra⟩ := lk_lst r1 b1 q
      exact fin ea (.inr ha) ra h1
    | non => exact h1.elim
    | bl _ => exact h1.elim
    | int _ => exact h1.elim
    | str _ => exact h1.elim
    | ins _ _ => exact h1.elim
theorem r_tup {es : List Expr} {cs : List (Bool × CE)} {x1} {pos : Pos} (h : PA X es (tMD X.K xc W (evs G cs))) : PE X (.Tuple es x1 pos) (tM X.K xc W (ev G (.tup cs))) := by
  refine PE.weak (pe_tup h) fun σ H Q ⟨F, μ, S, ρ, rel, er, h⟩ => ⟨F, μ, S, ρ, rel, er, ?_⟩
  rw [show ev G (.tup cs) ρ S = (evs G cs ρ S).bind fun xs s => if xs.length ≤ line then .ok (.t (.tup xs)) s else .bad from rfl] at h
  refine okD_bind h fun F1 H1 vs ds S1 e1 r1 b1 h1 => ?_
  split at h1
  · rename_i hl
    exact ⟨by rw [b1.length, ← line_eq]; exact hl, fun p hp => okE_tup h1 r1 b1 hp⟩
  · exact h1.elim
theorem r_lst {es : List Expr} {cs : List (Bool × CE)} {pos : Pos} (h : PA X es (tMD X.K xc W (evs G cs))) : PE X (.List es pos) (tM X.K xc W (ev G (.lst cs))) := by
  refine PE.weak (pe_lst h) fun σ H Q ⟨F, μ, S, ρ, rel, er, h⟩ => ⟨F, μ, S, ρ, rel, er, ?_⟩
  rw [show ev G (.lst cs) ρ S = (evs G cs ρ S).bind fun xs s => if xs.length ≤ line then .ok (.own (.lst xs)) s else .bad from rfl] at h
  refine okD_bind0 h fun F1 H1 vs ds S1 e1 r1 b1 h1 => ?_
  split at h1
  · rename_i hl
    refine ⟨by rw [b1.length, ← line_eq]; exact hl, fun p hp => ?_⟩
    refine h1 _ _ _ (e1.trans (Ext.newOwn hp)) (r1.newOwn hp) ⟨p, vs, ds, rfl, rfl, upd_same, b1, (r1.out hp).1, (r1.out hp).2⟩ fun a e => ?_
    cases e
    cases q : H p with
    | none => rfl
    | some o => exact absurd hp (e1.live p (by rw [q]; intro z; cases z))
  · exact h1.elim
end
end Zw
set_option Elab.async false
set_option linter.all false
set_option maxRecDepth 100000
/-! Zw5: subscripts, calls, built-ins, comprehensions. -/
namespace Zw
open PySem PySem.Spec PyProof.Rows L2
section
variable {X : Cx} {K : PySem.W.Frag} {xc : Nat → Option XCls} {W : WX} {F : Hp} {μ : List Addr} {S : Store} {H : Hp} {σ : L2.St} {ρ : Env} {G : Gx}
/-! ### subscripts -/
theorem ixD_get {vs : List V} {ds : List D} {i : Int} {d : D} (h : RpL K F vs ds) (e : ixD ds i = some d) : ∃ v, atI vs i = some v ∧ Rp K F v d := by
  unfold ixD at e
  cases q : ixN ds.length i with
  | none => rw [q] at e; cases e
  | some j =>
    rw [q] at e
    obtain ⟨v, h1, h2⟩ := h.get (show ds[j]? = some d from e)
    refine ⟨v, ?_, h2⟩
    unfold atI
    rw [h.length]
    rw [show L2.ixN ds.length i = some j from q]
    exact h1
def gIx (x y : B) (s : Store) : R B := match x.look s, y with
      | some (.tup xs), .t (.int i) => .of ((ixD xs i).map .t) s
      | some (.lst xs), .t (.int i) => .of ((ixD xs i).map .t) s
      | _, _ => .bad
theorem hop_ix {x y : V} {bx bY : B} {Q : VK} (r : Rel K F μ S H) (hx : BRp K F μ H x bx) (hy : BRp K F μ H y bY) (h : okE K xc μ W F H σ (gIx bx bY S) Q) : rIxL K x y H Q ∨ rIxT K x y H Q := by
  unfold gIx at h
  split at h
  · rename_i xs i e1
    cases q : ixD xs i with
    | none => rw [q] at h; exact h.elim
    | some d =>
      rw [q] at h
      obtain ⟨a, vs, ea, ha, ra⟩ := lk_tup r hx e1
      obtain ⟨v, h1, h2⟩ := ixD_get ra q
      exact .inr ⟨a, vs, i, v, ea, rp_int hy, ha, h1, okE_val h r h2 trivial⟩
  · rename_i xs i e1
    cases q : ixD xs i with
    | none => rw [q] at h; exact h.elim
    | some d =>
      rw [q] at h
      obtain ⟨a, vs, ea, ha, ra⟩ := lk_lst r hx e1
      obtain ⟨v, h1, h2⟩ := ixD_get ra q
      exact .inl ⟨a, vs, i, v, ea, rp_int hy, ha, h1, okE_val h r h2 trivial⟩
  · exact h.elim
def notSlice : Expr → Bool
  | .Slice .. => false
  | _ => true
theorem plainIx {b : Expr} (h : notSlice b = true) : PlainIx b := by
  intro o i
  cases b <;> first | rfl | cases h
theorem r_ix {a b : Expr} {ca cb : CE} {pos : Pos} (ha : PE X a (tM X.K xc W (ev G ca))) (hb : PE X b (tM X.K xc W (ev G cb))) (hs : notSlice b = true) : PE X (.Subscript a b pos) (tM X.K xc W (ev G (.ix ca cb))) :=
  PE.weak (pe_ix (ix_list.or ix_tup) ha hb (plainIx hs)) fun σ H Q q => bin_rd (g := gIx) (fun F μ S H x y bx bY Q r hx hy h => hop_ix r hx hy h) q
/-- a slice's part -/
def okO (K : PySem.W.Frag) (xc : Nat → Option XCls) (μ : List Addr) (W : WX) (F H : Hp) (σ : L2.St) (r : R (Option Int)) (Q : Option Int → Hp → Prop) : Prop := match r with
  | .ok o S' => ∀ F' H', Ext μ F H F' H' → Rel K F' μ S' H' → Q o H'
  | .ex c p S' => ∀ F' H' cls d, Ext μ F H F' H' → Rel K F' μ S' H' → XR K xc F' H' c p cls d → W cls d σ H'
  | .bad => False
def tMO (K : PySem.W.Frag) (xc : Nat → Option XCls) (W : WX) (m : Env → Store → R (Option Int)) : TO := fun σ H Q =>
  ∃ F μ S ρ, Rel K F μ S H ∧ ER K F μ H ρ σ ∧ okO K xc μ W F H σ (m ρ S) Q
theorem PO.weak {e : Option Expr} {t t' : TO} (h : PO X e t) (w : ∀ σ H Q, t' σ H Q → t σ H Q) : PO X e t' := ⟨fun pins s σ H Q I q => h.run pins s σ H Q I (w σ H Q q)⟩
theorem o_none : PO X none (tMO X.K xc W (evO G none)) := PO.weak po_none fun σ H Q ⟨F, μ, S, ρ, rel, er, h⟩ => h F H (Ext.refl _ _ _) rel
theorem o_some {e : Expr} {c : CE} (he : PE X e (tM X.K xc W (ev G c))) : PO X (some e) (tMO X.K xc W (evO G (some c))) := by
  refine PO.weak (po_some he) fun σ H Q ⟨F, μ, S, ρ, rel, er, h⟩ => ⟨F, μ, S, ρ, rel, er, ?_⟩
  rw [show evO G (some c) ρ S = (ev G c ρ S).bind fun x s => match x with
      | .t (.int i) => .ok (some i) s
      | _ => .bad from rfl] at h
  cases q : ev G c ρ S with
  | ok b S1 =>
    rw [q] at h
    intro F1 H1 v e1 r1 bv _
    simp only [R.bind] at h
    split at h
    · exact ⟨_, rp_int bv, h F1 H1 e1 r1⟩
    · exact h.elim
  | ex c p S1 => rw [q] at h; exact h
  | bad => rw [q] at h; exact h
theorem okO_bind {r : R (Option Int)} {g : Option Int → Store → R B} {Q : VK} {R' : Option Int → Hp → Prop} (h : okE K xc μ W F H σ (r.bind g) Q)
    (k : ∀ F1 H1 b S1, Ext μ F H F1 H1 → Rel K F1 μ S1 H1 → okE K xc μ W F1 H1 σ (g b S1) Q → R' b H1) : okO K xc μ W F H σ r R' := by
  cases r with
  | ok b S1 => exact fun F1 H1 x r1 => k F1 H1 b S1 x r1 (okE.step x h)
  | ex c p S1 => exact h
  | bad => exact h
theorem cut_ok {vs : List V} {ds : List D} (h : RpL K F vs ds) (lo hi : Option Int) : RpL K F (cutV vs lo hi) (cut ds lo hi) := by
  unfold cutV cut
  rw [h.length]
  exact (h.drop _).take _
theorem sIx_le {n : Nat} {o : Option Int} : sIx n n o ≤ n := by
  cases o with
  | none => exact Nat.le_refl _
  | some v =>
    show (if v < 0 then (v + n).toNat else min v.toNat n) ≤ n
    split <;> omega
theorem hop_slice {x : V} {bx : B} {lo hi : Option Int} {Q : VK} (r : Rel K F μ S H) (hx : BRp K F μ H x bx) (h : okE K xc μ W F H σ (.of ((bx.look S).bind fun d => slice d lo hi) S) Q) : rSlL K x lo hi H Q ∨ rSlA K x lo hi H Q := by
  cases q : bx.look S with
  | none => rw [q] at h; exact h.elim
  | some d =>
    rw [q] at h
    cases d with
    | tup ds =>
      obtain ⟨a, vs, ea, ha, ra⟩ := lk_tup r hx q
      refine .inr ⟨a, vs, ea, ha, fun hw => ?_, fun _ p hp => okE_tup h r (cut_ok ra lo hi) hp⟩
      have e : cut ds lo hi = ds := by
        unfold cut
        rw [ra.length] at hw
        have w1 : sIx ds.length 0 lo = 0 := hw.1
        have w2 : sIx ds.length ds.length hi = ds.length := hw.2
        rw [w1, w2]
        simp
      have h' : okE K xc μ W F H σ (.ok (.t (.tup (cut ds lo hi))) S) Q := h
      rw [e] at h'
      rw [← ea]
      exact okE_val h' r (lk_t r hx q (fun _ z => by cases z)).2 trivial
    | lst ds =>
      obtain ⟨a, vs, ea, ha, ra⟩ := lk_lst r hx q
      exact .inl ⟨a, vs, ea, ha, fun p hp => okE_lst h r (cut_ok ra lo hi) hp⟩
    | non => exact h.elim
    | bl _ => exact h.elim
    | int _ => exact h.elim
    | str _ => exact h.elim
    | ins _ _ => exact h.elim
theorem r_sl {a : Expr} {lo hi : Option Expr} {ca : CE} {cl ch : Option CE} {pos p2 : Pos} (ha : PE X a (tM X.K xc W (ev G ca))) (hl : PO X lo (tMO X.K xc W (evO G cl))) (hh : PO X hi (tMO X.K xc W (evO G ch))) :
    PE X (.Subscript a (.Slice lo hi none p2) pos) (tM X.K xc W (ev G (.sl ca cl ch))) := by
  refine PE.weak (pe_slice (sl_list.or sl_tupA) ha hl hh) fun σ H Q ⟨F, μ, S, ρ, rel, er, h⟩ => ⟨F, μ, S, ρ, rel, er, ?_⟩
  rw [show ev G (.sl ca cl ch) ρ S = (ev G ca ρ S).bind fun x s => (evO G cl ρ s).bind fun lo s => (evO G ch ρ s).bind fun hi s =>
      .of ((x.look s).bind fun d => slice d lo hi) s from rfl] at h
  refine okE_bind h fun F1 H1 x bx S1 e1 r1 b1 f1 h1 => ⟨F1, μ, S1, ρ, r1, er.step e1, okO_bind h1 fun F2 H2 l S2 e2 r2 h2 => ⟨F2, μ, S2, ρ, r2, (er.step e1).step e2, okO_bind h2 fun F3 H3 u S3 e3 r3 h3 => ?_⟩⟩
  exact hop_slice r3 ((b1.step e2).step e3) h3
/-! ### arguments -/
def notStar : Expr → Bool
  | .Starred .. => false
  | _ => true
theorem starEach_plain {e : Expr} {es : List Expr} {env : PySem.Env} (h : notStar e = true) : starEach (e :: es) env = (false, eval e env) :: starEach es env := by
  cases e <;> first | rfl | cases h
theorem backTo_plain {es : List Expr} {env : PySem.Env} {pos : Pos} (h : es.all notStar = true) : (backTo pos (starEach es env)).any (·.1) = false := by
  induction es with
  | nil => rfl
  | cons e es ih =>
    rw [List.all_cons, Bool.and_eq_true] at h
    rw [starEach_plain h.1]
    show (false || (backTo pos (starEach es env)).any (·.1)) = false
    rw [ih h.2] <;> rfl
theorem l_nil : PA X [] (tML X.K xc W (evl G [])) := PA.weak pa_nil fun σ H Q ⟨F, μ, S, ρ, rel, er, h⟩ => h F H [] (Ext.refl _ _ _) rel .nil
theorem l_cons {e : Expr} {es : List Expr} {c : CE} {cs : List CE} (he : PE X e (tM X.K xc W (ev G c))) (hes : PA X es (tML X.K xc W (evl G cs))) (hs : notStar e = true) : PA X (e :: es) (tML X.K xc W (evl G (c :: cs))) := by
  refine PA.weak (pa_cons he hes (starEach_plain hs)) fun σ H Q ⟨F, μ, S, ρ, rel, er, h⟩ => ⟨F, μ, S, ρ, rel, er, ?_⟩
  have h2 : okL X.K xc μ W F H σ (((ev G c ρ S).bind fun x s => .ok x.still s).bind fun x s => (evl G cs ρ s).bind fun xs s => .ok (x :: xs) s) Q := by
    rw [R.bind_assoc]
    exact h
  have h3 : okE X.K xc μ W F H σ ((ev G c ρ S).bind fun x s => .ok x.still s) (fun x H1 => tML X.K xc W (evl G cs) σ H1 fun xs H2 => Q (x :: xs) H2) := okE_bindL h2 fun F1 H1 v b S1 e1 r1 b1 f1 h1 => by
    refine ⟨F1, μ, S1, ρ, r1, er.step e1, ?_⟩
    cases q : evl G cs ρ S1 with
    | ok bs S2 =>
      rw [q] at h1
      exact fun F2 H2 vs e2 r2 b2 => h1 F2 H2 (v :: vs) e2 r2 (.cons (b1.step e2) b2)
    | ex c p S2 => rw [q] at h1; exact h1
    | bad => rw [q] at h1; exact h1
  exact okE_still h3
/-! ### built-ins by name -/
theorem r_b1 {f : Bi} {c : CE} {e : Expr} {x : Str} {p pos : Pos} {r : RV1} (hc : PE X (.Call (.Name x p) [e] [] pos) (tCB r (tCons (tM X.K xc W (ev G c)) tNil)))
    (hop : ∀ σ F μ S H x bx (Q : VK), Rel X.K F μ S H → BRp X.K F μ H x bx → okE X.K xc μ W F H σ (h1 f bx S) Q → r [x] H Q) : PE X (.Call (.Name x p) [e] [] pos) (tM X.K xc W (ev G (.b1 f c))) :=
  PE.weak hc fun σ H Q ⟨F, μ, S, ρ, rel, er, h⟩ => ⟨F, μ, S, ρ, rel, er, okE_bind (g := h1 f) h fun F1 H1 v b S1 e1 r1 b1 f1 h1 => hop σ F1 μ S1 H1 v b Q r1 b1 h1⟩
theorem r_isi {ty : Ty} {n : String} {c : CE} {e : Expr} {p p2 pos : Pos} (hn : ty.name = some n) (he : PE X e (tM X.K xc W (ev G c))) (hg : L2.Gl X "isinstance") (hm : X.mg "isinstance" = none) (hT : PE X (.Name (Str.ofString n) p2) (tC (.ty n))) (hs : notStar e = true) :
    PE X (.Call (.Name "isinstance" p) [e, .Name (Str.ofString n) p2] [] pos) (tM X.K xc W (ev G (.b1 (.isi ty) c))) :=
  PE.weak (pe_callB call_isi hg hm boot_isinstance (pa_cons he (pa_cons hT pa_nil (starEach_plain rfl)) (starEach_plain hs)) (he := starEach_plain hs) (hpl := backTo_plain rfl))
    fun σ H Q ⟨F, μ, S, ρ, rel, er, h⟩ => ⟨F, μ, S, ρ, rel, er, okE_bind (g := h1 (.isi ty)) h fun F1 H1 v b S1 e1 r1 b1 f1 h1 => hop_isi hn r1 b1 h1⟩
theorem r_b2 {f : Bi} {c c' : CE} {e e' : Expr} {x : Str} {p pos : Pos} {r : RV1} (hc : PE X (.Call (.Name x p) [e, e'] [] pos) (tCB r (tCons (tM X.K xc W (ev G c)) (tCons (tM X.K xc W (ev G c')) tNil))))
    (hop : ∀ σ F μ S H x y bx bY (Q : VK), Rel X.K F μ S H → BRp X.K F μ H x bx → BRp X.K F μ H y bY → okE X.K xc μ W F H σ (h2 f bx bY S) Q → r [x, y] H Q) : PE X (.Call (.Name x p) [e, e'] [] pos) (tM X.K xc W (ev G (.b2 f c c'))) :=
  PE.weak hc fun σ H Q ⟨F, μ, S, ρ, rel, er, h⟩ => ⟨F, μ, S, ρ, rel, er, okE_bind (g := fun x s => (ev G c' ρ s).bind fun y s => h2 f x y s) h fun F1 H1 v b S1 e1 r1 b1 f1 h1 =>
    ⟨F1, μ, S1, ρ, r1, er.step e1, okE_bind (g := fun y s => h2 f b y s) h1 fun F2 H2 y bY S2 e2 r2 b2 f2 h2 => hop σ F2 μ S2 H2 v y b bY Q r2 (b1.step e2) b2 h2⟩⟩
/-! ### slots -/
theorem ER.set (er : ER K F μ H ρ σ) {i : Nat} {v : V} {d : D} (h : Rp K F v d) : ER K F μ H (ρ.set i (some (.t d))) (σ.set i (some v)) := by
  have hl := er.len
  have gs : ∀ (j : Nat) (b : B), (ρ.set i (some (.t d)))[j]? = some (some b) → (j = i ∧ b = .t d ∧ i < ρ.length) ∨ (j ≠ i ∧ ρ[j]? = some (some b)) := fun j b e => by
    by_cases q : j = i
    · subst q
      by_cases l : j < ρ.length
      · rw [List.getElem?_set_self l] at e
        cases e
        exact .inl ⟨rfl, rfl, l⟩
      · rw [List.getElem?_eq_none (by simpa using l)] at e; cases e
    · rw [List.getElem?_set_ne (Ne.symm q)] at e
      exact .inr ⟨q, e⟩
  refine ⟨by simpa using hl, fun j b e => ?_, fun j k d1 d2 a n e1 e2 e3 => ?_⟩
  · rcases gs j b e with ⟨q, e2, l⟩ | ⟨q, e2⟩
    · subst q e2
      exact ⟨v, List.getElem?_set_self (by omega), h⟩
    · obtain ⟨w, h1, h2⟩ := er.val j b e2
      exact ⟨w, by rw [List.getElem?_set_ne (Ne.symm q)]; exact h1, h2⟩
  · have g1 : j ≠ i ∧ ρ[j]? = some (some (.own d1)) := by
      rcases gs j _ e1 with ⟨_, e2, _⟩ | x
      · cases e2
      · exact x
    have g2 : k ≠ i ∧ (ρ[k]? = some (some (.own d2)) ∨ ρ[k]? = some (some (.bor d2))) := by
      rcases e2 with e2 | e2
      · rcases gs k _ e2 with ⟨_, e2, _⟩ | x
        · cases e2
        · exact ⟨x.1, .inl x.2⟩
      · rcases gs k _ e2 with ⟨_, e2, _⟩ | x
        · cases e2
        · exact ⟨x.1, .inr x.2⟩
    rw [List.getElem?_set_ne (Ne.symm g1.1)] at e3
    rw [List.getElem?_set_ne (Ne.symm g2.1)]
    exact er.sep j k d1 d2 a n g1.2 g2.2 e3
theorem ER.unset (er : ER K F μ H ρ σ) (i : Nat) : ER K F μ H (ρ.set i none) (σ.set i none) := by
  have gs : ∀ (j : Nat) (b : B), (ρ.set i none)[j]? = some (some b) → j ≠ i ∧ ρ[j]? = some (some b) := fun j b e => by
    by_cases q : j = i
    · subst q
      by_cases l : j < ρ.length
      · rw [List.getElem?_set_self l] at e; cases e
      · rw [List.getElem?_eq_none (by simpa using l)] at e; cases e
    · rw [List.getElem?_set_ne (Ne.symm q)] at e
      exact ⟨q, e⟩
  refine ⟨by simpa using er.len, fun j b e => ?_, fun j k d1 d2 a n e1 e2 e3 => ?_⟩
  · obtain ⟨q, e2⟩ := gs j b e
    obtain ⟨w, h1, h2⟩ := er.val j b e2
    exact ⟨w, by rw [List.getElem?_set_ne (Ne.symm q)]; exact h1, h2⟩
  · obtain ⟨q1, e1⟩ := gs j _ e1
    have g2 : k ≠ i ∧ (ρ[k]? = some (some (.own d2)) ∨ ρ[k]? = some (some (.bor d2))) := by
      rcases e2 with e2 | e2
      · exact ⟨(gs k _ e2).1, .inl (gs k _ e2).2⟩
      · exact ⟨(gs k _ e2).1, .inr (gs k _ e2).2⟩
    rw [List.getElem?_set_ne (Ne.symm q1)] at e3
    rw [List.getElem?_set_ne (Ne.symm g2.1)]
    exact er.sep j k d1 d2 a n e1 g2.2 e3
theorem ER.wipe (er : ER K F μ H ρ σ) : ∀ vs : List Nat, ER K F μ H (Zw.wipe ρ vs) (L2.wipe σ vs)
  | [] => er
  | v :: vs => (ER.wipe er vs).unset v
theorem wipe_get {σ : L2.St} {i : Nat} : ∀ {vs : List Nat}, i ∈ vs → i < σ.length → (L2.wipe σ vs)[i]? = some none
  | [], h, _ => by simp at h
  | v :: vs, h, hl => by
    unfold L2.wipe
    by_cases q : v = i
    · subst q
      rw [List.getElem?_set_self (by rw [wipe_length]; exact hl)]
    · rw [List.getElem?_set_ne q]
      exact wipe_get ((List.mem_cons.mp h).resolve_left fun z => q z.symm) hl
theorem wipe_out {σ : L2.St} {i : Nat} : ∀ {vs : List Nat}, i ∉ vs → (L2.wipe σ vs)[i]? = σ[i]?
  | [], _ => rfl
  | v :: vs, h => by
    unfold L2.wipe
    rw [List.getElem?_set_ne (fun z => h (by rw [z]; exact List.mem_cons_self))]
    exact wipe_out fun z => h (List.mem_cons_of_mem _ z)
theorem wipe_set {σ : L2.St} {i : Nat} {o : Option V} {vs : List Nat} (h : i ∈ vs) : L2.wipe (σ.set i o) vs = L2.wipe σ vs := by
  refine List.ext_getElem? fun j => ?_
  by_cases hj : j ∈ vs
  · by_cases l : j < σ.length
    · rw [wipe_get hj l, wipe_get hj (by simpa using l)]
    · rw [List.getElem?_eq_none (by rw [wipe_length]; simpa using l), List.getElem?_eq_none (by rw [wipe_length]; simpa using l)]
  · rw [wipe_out hj, wipe_out hj, List.getElem?_set_ne (fun z => hj (by rw [← z]; exact h))]
theorem wipe_wipe {σ : L2.St} {vs : List Nat} : L2.wipe (L2.wipe σ vs) vs = L2.wipe σ vs := by
  refine List.ext_getElem? fun j => ?_
  by_cases hj : j ∈ vs
  · by_cases l : j < σ.length
    · rw [wipe_get hj l, wipe_get hj (by rw [wipe_length]; exact l)]
    · rw [List.getElem?_eq_none (by rw [wipe_length, wipe_length]; simpa using l), List.getElem?_eq_none (by rw [wipe_length]; simpa using l)]
  · rw [wipe_out hj]
/-! ### targets -/
mutual
def gOf (K : PySem.W.Frag) : Tg → TG
  | .nm i => gName i
  | .tup ts => gTup K ts.length (gsOf K ts)
def gsOf (K : PySem.W.Frag) : List Tg → TGs
  | [] => gNil
  | t :: ts => gCons (gOf K t) (gsOf K ts)
end
mutual
def Tg.slots : Tg → List Nat
  | .nm i => [i]
  | .tup ts => slotsAll ts
def slotsAll : List Tg → List Nat
  | [] => []
  | t :: ts => t.slots ++ slotsAll ts
end
mutual
theorem bindT_ok : ∀ (t : Tg) {d : D} {v : V} {ρ ρ' : Env} {σ : L2.St} {Q : L2.St → Hp → Prop}, bindT t d ρ = some ρ' → Same F H → Rp K F v d → ER K F μ H ρ σ →
    (∀ σ', ER K F μ H ρ' σ' → (∀ vs, (∀ i ∈ t.slots, i ∈ vs) → L2.wipe σ' vs = L2.wipe σ vs) → (∀ (i : Nat) (d : D), ρ'[i]? = some (some (B.own d)) → ρ[i]? = some (some (B.own d)) ∧ σ'[i]? = σ[i]?) → Q σ' H) → gOf K t v σ H Q
  | .nm i, d, v, ρ, ρ', σ, Q, h, _, r, er, k => by
    rw [bindT] at h
    cases h
    refine k _ (er.set r) (fun vs hv => wipe_set (hv i (by rw [Tg.slots]; exact List.mem_singleton.mpr rfl))) fun j e h => ?_
    by_cases q : j = i
    · subst q
      by_cases l : j < ρ.length
      · rw [List.getElem?_set_self l] at h; cases h
      · rw [List.getElem?_eq_none (by simpa using l)] at h; cases h
    · rw [List.getElem?_set_ne (Ne.symm q)] at h
      exact ⟨h, List.getElem?_set_ne (Ne.symm q)⟩
  | .tup ts, d, v, ρ, ρ', σ, Q, h, sb, r, er, k => by
    cases r with
    | @tup a xs ds h1 h2 =>
      rw [bindT] at h
      refine ⟨a, xs, rfl, sqT_sub sb h1, ?_, bindTs_ok ts h sb h2 er fun σ' e w o => k σ' e (fun vs hv => w vs (by rw [Tg.slots] at hv; exact hv)) o⟩
      rw [h2.length]
      exact bindTs_len ts h
    | _ => simp [bindT] at h
theorem bindTs_ok : ∀ (ts : List Tg) {ds : List D} {vs : List V} {ρ ρ' : Env} {σ : L2.St} {Q : L2.St → Hp → Prop}, bindTs ts ds ρ = some ρ' → Same F H → RpL K F vs ds → ER K F μ H ρ σ →
    (∀ σ', ER K F μ H ρ' σ' → (∀ vs, (∀ i ∈ slotsAll ts, i ∈ vs) → L2.wipe σ' vs = L2.wipe σ vs) → (∀ (i : Nat) (d : D), ρ'[i]? = some (some (B.own d)) → ρ[i]? = some (some (B.own d)) ∧ σ'[i]? = σ[i]?) → Q σ' H) → gsOf K ts vs σ H Q
  | [], ds, vs, ρ, ρ', σ, Q, h, _, r, er, k => by
    cases r with
    | nil => rw [bindTs] at h; cases h; exact ⟨rfl, k _ er (fun _ _ => rfl) fun _ _ h => ⟨h, rfl⟩⟩
    | cons _ _ => simp [bindTs] at h
  | t :: ts, ds, vs, ρ, ρ', σ, Q, h, sb, r, er, k => by
    cases r with
    | nil => simp [bindTs] at h
    | @cons v vs d ds q r =>
      rw [bindTs] at h
      cases e : bindT t d ρ with
      | none => rw [e] at h; cases h
      | some ρ1 =>
        rw [e] at h
        exact ⟨v, vs, rfl, bindT_ok t e sb q er fun σ1 er1 w1 o1 => bindTs_ok ts h sb r er1 fun σ' er' w2 o2 => k σ' er' (fun us hu =>
          (w2 us fun i hi => hu i (by rw [slotsAll]; exact List.mem_append_right _ hi)).trans (w1 us fun i hi => hu i (by rw [slotsAll]; exact List.mem_append_left _ hi))) fun i d h =>
          ⟨(o1 i d (o2 i d h).1).1, (o2 i d h).2.trans (o1 i d (o2 i d h).1).2⟩⟩
theorem bindTs_len : ∀ (ts : List Tg) {ds : List D} {ρ ρ' : Env}, bindTs ts ds ρ = some ρ' → ds.length = ts.length
  | [], [], _, _, _ => rfl
  | [], _ :: _, _, _, h => by simp [bindTs] at h
  | _ :: _, [], _, _, h => by simp [bindTs] at h
  | t :: ts, d :: ds, ρ, ρ', h => by
    rw [bindTs] at h
    cases e : bindT t d ρ with
    | none => rw [e] at h; cases h
    | some ρ1 =>
      rw [e] at h
      simp [bindTs_len ts h]
end
end
end Zw
set_option Elab.async false
set_option linter.all false
set_option maxRecDepth 100000
/-! Zw6: what is walked; list comprehensions. -/
namespace Zw
open PySem PySem.Spec PyProof.Rows L2
section
variable {X : Cx} {K : PySem.W.Frag} {xc : Nat → Option XCls} {W : WX} {F : Hp} {μ : List Addr} {S : Store} {H : Hp} {σ : L2.St} {ρ : Env} {G : Gx}
/-! ### walks -/
/-- J walks what xs says, in every state that P holds of -/
structure Wk (K : PySem.W.Frag) (P : Hp → Hp → Prop) (J : It) (xs : List D) : Prop where
  go : ∀ (i : Nat) (F H : Hp), P F H → i < xs.length → J.go i H
  stop : ∀ (F H : Hp), P F H → J.stop xs.length H
  yld : ∀ (i : Nat) (F H : Hp) (x : V) (H' : Hp), P F H → J.yld i H x H' → i < xs.length → H' = H ∧ ∃ d, xs[i]? = some d ∧ Rp K F x d
/-- two sorts of what stays: the state only grew; the frozen part only grew -/
def WkAny (K : PySem.W.Frag) (μ : List Addr) (F1 H1 : Hp) (J : It) (bs : List B) (xs : List D) : Prop :=
  Wk K (fun F H => Ext μ F1 H1 F H ∧ Same F H) J xs ∧ ((frzs bs).isSome = true → Wk K (fun F H => Same F1 F ∧ Same F H) J xs)
def seenW (kind : Nat) (bs : List B) : Option (List B × List D) := ((seens bs).bind (walk kind)).map fun xs => (bs, xs)
def wkM (G : Gx) (kind : Nat) (its : List CE) (ρ : Env) (s : Store) : R (List B × List D) := (evl G its ρ s).bind fun bs s => .of (seenW kind bs) s
def okI (K : PySem.W.Frag) (xc : Nat → Option XCls) (μ : List Addr) (W : WX) (F H : Hp) (σ : L2.St) (r : R (List B × List D)) (R' : It → Hp → Prop) : Prop := match r with
  | .ok p S' => ∀ F' H' J, Ext μ F H F' H' → Rel K F' μ S' H' → WkAny K μ F' H' J p.1 p.2 → R' J H'
  | .ex c p S' => ∀ F' H' cls d, Ext μ F H F' H' → Rel K F' μ S' H' → XR K xc F' H' c p cls d → W cls d σ H'
  | .bad => False
def tMI (K : PySem.W.Frag) (xc : Nat → Option XCls) (W : WX) (m : Env → Store → R (List B × List D)) : TI := fun σ H R' =>
  ∃ F μ S ρ, Rel K F μ S H ∧ ER K F μ H ρ σ ∧ okI K xc μ W F H σ (m ρ S) R'
theorem PI.weak {X : Cx} {tg e : Expr} {t t' : TI} (h : PI X tg e t) (w : ∀ σ H Q, t' σ H Q → t σ H Q) : PI X tg e t' := ⟨fun pins s σ H Q I q => h.run pins s σ H Q I (w σ H Q q)⟩
theorem PI.alt {X : Cx} {tg e : Expr} {t u : TI} (h : PI X tg e t) (k : PI X tg e u) : PI X tg e (fun σ H Q => t σ H Q ∨ u σ H Q) :=
  ⟨fun pins s σ H Q I q => q.elim (h.run pins s σ H Q I) (k.run pins s σ H Q I)⟩
/-- a list that stays -/
theorem wk_list {a : Addr} {vs : List V} {xs : List D} {P : Hp → Hp → Prop} (h : ∀ F H, P F H → SqL K H a vs ∧ RpL K F vs xs) : Wk K P (Itl K a) xs where
  go := fun i F H p hi => by
    obtain ⟨q, r⟩ := h F H p
    have hl := r.length
    exact ⟨vs, vs[i]'(by omega), q, List.getElem?_eq_getElem _⟩
  stop := fun F H p => by
    obtain ⟨q, r⟩ := h F H p
    exact ⟨vs, q, by rw [r.length]; exact Nat.le_refl _⟩
  yld := fun i F H x H' p y hi => by
    obtain ⟨q, r⟩ := h F H p
    obtain ⟨e, y⟩ := y
    obtain ⟨v, h1, h2⟩ := r.get (List.getElem?_eq_getElem hi)
    have := y vs q
    rw [h1] at this
    cases this
    exact ⟨e, _, List.getElem?_eq_getElem hi, h2⟩
theorem wk_tup {a : Addr} {vs : List V} {xs : List D} {P : Hp → Hp → Prop} (h : ∀ F H, P F H → SqT K H a vs ∧ RpL K F vs xs) : Wk K P (Itt K a) xs where
  go := fun i F H p hi => by
    obtain ⟨q, r⟩ := h F H p
    have hl := r.length
    exact ⟨vs, vs[i]'(by omega), q, List.getElem?_eq_getElem _⟩
  stop := fun F H p => by
    obtain ⟨q, r⟩ := h F H p
    exact ⟨vs, q, by rw [r.length]; exact Nat.le_refl _⟩
  yld := fun i F H x H' p y hi => by
    obtain ⟨q, r⟩ := h F H p
    obtain ⟨e, y⟩ := y
    obtain ⟨v, h1, h2⟩ := r.get (List.getElem?_eq_getElem hi)
    have := y vs q
    rw [h1] at this
    cases this
    exact ⟨e, _, List.getElem?_eq_getElem hi, h2⟩
theorem wk_range {lo hi : Int} {xs : List D} {P : Hp → Hp → Prop} (h : xs = (List.range (hi - lo).toNat).map fun (k : Nat) => D.int (lo + (k : Int))) : Wk K P (Itr lo (hi - lo).toNat) xs where
  go := fun i F H p hi => by
    subst h
    simp at hi
    show i < _
    omega
  stop := fun F H p => by
    subst h
    show _ ≤ _
    simp
  yld := fun i F H x H' p y hi => by
    obtain ⟨e, y⟩ := y
    subst h y
    refine ⟨e, .int (lo + i), ?_, .int _⟩
    rw [List.length_map, List.length_range] at hi
    rw [List.getElem?_map, List.getElem?_range hi]
    rfl
theorem sq_own {a : Addr} {vs : List V} {F1 H1 F H : Hp} (x : Ext μ F1 H1 F H) (m : a ∉ μ) (h : H1 a = some (.lst vs)) : H a = some (.lst vs) := x.keep a _ h (fun _ z => by cases z) m
theorem rel_in {F1 H1 : Hp} {S : Store} (r : Rel K F1 μ S H1) {a : Addr} {o : HO} (h : F1 a = some o) : a ∉ μ := fun z => by rw [r.dis a z] at h; cases h
theorem wkAny_lst {F1 H1 : Hp} {S1 : Store} {v : V} {b : B} {xs : List D} (nb : ∀ d, b ≠ .own d) (r : Rel K F1 μ S1 H1) (bv : BRp K F1 μ H1 v b) (e : b.seen = some (.lst xs)) : ∃ a, v = .ref a ∧ (∃ ys, SqL K H1 a ys) ∧ WkAny K μ F1 H1 (Itl K a) [b] xs := by
  cases b with
  | t d =>
    cases e
    cases bv with
    | @lst a vs _ h1 h2 =>
      exact ⟨a, rfl, ⟨vs, SqL.of (r.sub _ _ h1)⟩, wk_list fun F H p => ⟨SqL.of (p.2 _ _ (p.1.fs _ _ h1)), h2.mono p.1.fs⟩, fun _ => wk_list fun F H p => ⟨SqL.of (p.2 _ _ (p.1 _ _ h1)), h2.mono p.1⟩⟩
  | own d =>
    exact absurd rfl (nb d)
  | bor d =>
    cases e
    obtain ⟨a, vs, ds, e1, e2, h1, h2, n, m⟩ := bv
    cases e2
    exact ⟨a, e1, ⟨vs, SqL.of h1⟩, wk_list fun F H p => ⟨SqL.of (sq_own p.1 m h1), h2.mono p.1.fs⟩, fun z => by cases z⟩
  | sc d =>
    cases e
    obtain ⟨a, vs, ds, e1, e2, h1, h2⟩ := bv
    cases e2
    exact ⟨a, e1, ⟨vs, h1.sq⟩, wk_list fun F H p => ⟨(h1.to fun o e m => ⟨p.1.keep a _ e (fun _ z => by cases z) m, m⟩).sq, h2.mono p.1.fs⟩, fun z => by cases z⟩
  | r k => cases e
theorem wkAny_tup {F1 H1 : Hp} {S1 : Store} {v : V} {b : B} {xs : List D} (r : Rel K F1 μ S1 H1) (bv : BRp K F1 μ H1 v b) (e : b.seen = some (.tup xs)) : ∃ a, v = .ref a ∧ (∃ ys, SqT K H1 a ys) ∧ WkAny K μ F1 H1 (Itt K a) [b] xs := by
  cases b with
  | t d =>
    cases e
    cases bv with
    | @tup a vs _ h1 h2 =>
      exact ⟨a, rfl, ⟨vs, sqT_sub r.sub h1⟩, wk_tup fun F H p => ⟨sqT_sub p.2 (sqT_sub p.1.fs h1), h2.mono p.1.fs⟩, fun _ => wk_tup fun F H p => ⟨sqT_sub p.2 (sqT_sub p.1 h1), h2.mono p.1⟩⟩
  | own d => cases e; obtain ⟨a, vs, ds, e1, e2, _⟩ := bv; cases e2
  | bor d => cases e; obtain ⟨a, vs, ds, e1, e2, _⟩ := bv; cases e2
  | sc d => cases e; obtain ⟨a, vs, ds, e1, e2, _⟩ := bv; cases e2
  | r k => cases e
theorem still_own (b : B) : ∀ d, b.still ≠ .own d := by intro d h; cases b <;> cases h
theorem i_items {tg e : Expr} {c : CE} (he : PE X e (tM X.K xc W (ev G c))) : PI X tg e (tMI X.K xc W (wkM G 0 [c])) := by
  refine PI.weak (PI.alt (pi_list he) (pi_tup he)) fun σ H Q ⟨F, μ, S, ρ, rel, er, h⟩ => ?_
  rw [show wkM G 0 [c] ρ S = ((ev G c ρ S).bind fun x s => .of (seenW 0 [x.still]) s) by
    unfold wkM
    rw [evl]
    cases ev G c ρ S <;> rfl] at h
  cases q : ev G c ρ S with
  | bad => rw [q] at h; exact h.elim
  | ex c p S1 => rw [q] at h; exact .inl ⟨F, μ, S, ρ, rel, er, by rw [q]; exact h⟩
  | ok b S1 =>
    rw [q] at h
    have h : okI X.K xc μ W F H σ (.of (seenW 0 [b.still]) S1) Q := h
    cases q2 : b.still.seen with
    | none => simp [seenW, seens, q2, R.of] at h; exact h.elim
    | some d =>
      cases d with
      | tup xs =>
        have e2 : seenW 0 [b.still] = some ([b.still], xs) := by simp [seenW, seens, q2, walk, itemsD]
        rw [e2] at h
        refine .inr ⟨F, μ, S, ρ, rel, er, okE_still ?_⟩
        rw [q]
        intro F1 H1 v e1 r1 bv fr
        obtain ⟨a, ea, hs, wk⟩ := wkAny_tup r1 bv q2
        exact ⟨a, ea, hs, h F1 H1 _ e1 r1 wk⟩
      | lst xs =>
        have e2 : seenW 0 [b.still] = some ([b.still], xs) := by simp [seenW, seens, q2, walk, itemsD]
        rw [e2] at h
        refine .inl ⟨F, μ, S, ρ, rel, er, okE_still ?_⟩
        rw [q]
        intro F1 H1 v e1 r1 bv fr
        obtain ⟨a, ea, hs, wk⟩ := wkAny_lst (still_own b) r1 bv q2
        exact ⟨a, ea, hs, h F1 H1 _ e1 r1 wk⟩
      | _ => simp [seenW, seens, q2, walk, itemsD, R.of] at h; exact h.elim
theorem okL_of {r : R (List B)} {g : List B → Option (List B × List D)} {Q : List V → Hp → Prop} {R' : It → Hp → Prop} (h : okI K xc μ W F H σ (r.bind fun bs s => .of (g bs) s) R')
    (k : ∀ F1 H1 vs bs S1 p, Ext μ F H F1 H1 → Rel K F1 μ S1 H1 → BRs K F1 μ H1 vs bs → g bs = some p → (∀ J, WkAny K μ F1 H1 J p.1 p.2 → R' J H1) → Q vs H1) : okL K xc μ W F H σ r Q := by
  cases r with
  | ok bs S1 =>
    intro F1 H1 vs e1 r1 b1
    have h : okI K xc μ W F H σ (.of (g bs) S1) R' := h
    cases q : g bs with
    | none => rw [q] at h; exact h.elim
    | some p =>
      rw [q] at h
      exact k F1 H1 vs bs S1 p e1 r1 b1 q fun J w => h F1 H1 J e1 r1 w
  | ex c p S1 => exact h
  | bad => exact h
theorem seen_int {b : B} {i : Int} {F1 H1 : Hp} {v : V} (bv : BRp K F1 μ H1 v b) (h : b.seen = some (.int i)) : v = .int i := by
  cases b with
  | t d => cases h; exact rp_int bv
  | own d => cases h; obtain ⟨a, vs, ds, e1, e2, _⟩ := bv; cases e2
  | bor d => cases h; obtain ⟨a, vs, ds, e1, e2, _⟩ := bv; cases e2
  | sc d => cases h; obtain ⟨a, vs, ds, e1, e2, _⟩ := bv; cases e2
  | r k => cases h
theorem range_some {lo hi : Int} {xs : List D} (h : rangeD lo hi = some xs) : (-(2 ^ 62) ≤ lo ∧ lo < 2 ^ 62 ∧ -(2 ^ 62) ≤ hi ∧ hi < 2 ^ 62) ∧ xs = (List.range (hi - lo).toNat).map fun (k : Nat) => D.int (lo + (k : Int)) := by
  unfold rangeD at h
  split at h
  · cases h; exact ⟨by assumption, rfl⟩
  · cases h
theorem seenW1 {bs : List B} {p : List B × List D} (h : seenW 1 bs = some p) : ∃ b n, bs = [b] ∧ b.seen = some (.int n) ∧ rangeD 0 n = some p.2 := by
  unfold seenW at h
  match bs with
  | [] => simp [seens, walk] at h
  | [b] =>
    cases q : b.seen with
    | none => simp [seens, q] at h
    | some d =>
      simp only [seens, q, Option.bind_some, Option.map_some] at h
      cases d with
      | int n =>
        obtain ⟨xs, e1, e2⟩ := Option.map_eq_some_iff.mp h
        exact ⟨b, n, rfl, q, by rw [← e2]; exact e1⟩
      | _ => simp [walk] at h
  | b :: c :: r =>
    cases q : b.seen with
    | none => simp [seens, q] at h
    | some d =>
      cases q2 : c.seen with
      | none => simp [seens, q, q2] at h
      | some d2 =>
        cases q3 : seens r with
        | none => simp [seens, q, q2, q3] at h
        | some d3 => simp [seens, q, q2, q3, walk] at h
theorem seenW2 {bs : List B} {p : List B × List D} (h : seenW 2 bs = some p) : ∃ b c n m, bs = [b, c] ∧ b.seen = some (.int n) ∧ c.seen = some (.int m) ∧ rangeD n m = some p.2 := by
  unfold seenW at h
  match bs with
  | [] => simp [seens, walk] at h
  | [b] =>
    cases q : b.seen with
    | none => simp [seens, q] at h
    | some d => simp [seens, q, walk] at h
  | [b, c] =>
    cases q : b.seen with
    | none => simp [seens, q] at h
    | some d =>
      cases q2 : c.seen with
      | none => simp [seens, q, q2] at h
      | some d2 =>
        simp only [seens, q, q2, Option.bind_some, Option.map_some] at h
        cases d with
        | int n =>
          cases d2 with
          | int m =>
            obtain ⟨xs, e1, e2⟩ := Option.map_eq_some_iff.mp h
            exact ⟨b, c, n, m, rfl, q, q2, by rw [← e2]; exact e1⟩
          | _ => simp [walk] at h
        | _ => simp [walk] at h
  | b :: c :: d :: r =>
    cases q : b.seen with
    | none => simp [seens, q] at h
    | some d1 =>
      cases q2 : c.seen with
      | none => simp [seens, q, q2] at h
      | some d2 =>
        cases q4 : d.seen with
        | none => simp [seens, q, q2, q4] at h
        | some d4 =>
          cases q3 : seens r with
          | none => simp [seens, q, q2, q3, q4] at h
          | some d3 => simp [seens, q, q2, q3, q4, walk] at h
theorem i_range1 {tg a : Expr} {c : CE} {p pos : Pos} (hg : L2.Gl X "range") (hm : X.mg "range" = none) (ha : PA X [a] (tML X.K xc W (evl G [c]))) (hs : notStar a = true) :
    PI X tg (.Call (.Name "range" p) [a] [] pos) (tMI X.K xc W (wkM G 1 [c])) := by
  refine PI.weak (pi_range1 hg hm ha (starEach_plain hs)) fun σ H Q ⟨F, μ, S, ρ, rel, er, h⟩ => ⟨F, μ, S, ρ, rel, er, okL_of (g := seenW 1) h fun F1 H1 vs bs S1 p e1 r1 b1 hp k => ?_⟩
  obtain ⟨b, n, e, hb, hr⟩ := seenW1 hp
  subst e
  obtain ⟨⟨_, _, l1, l2⟩, ex⟩ := range_some hr
  cases b1 with
  | cons bv rr =>
    cases rr
    rw [seen_int bv hb]
    refine ⟨n, rfl, l1, l2, ?_⟩
    have := k (Itr 0 (n - 0).toNat) ⟨wk_range ex, fun _ => wk_range ex⟩
    rw [Int.sub_zero] at this
    exact this
theorem i_range2 {tg a b : Expr} {ca cb : CE} {p pos : Pos} (hg : L2.Gl X "range") (hm : X.mg "range" = none) (ha : PA X [a, b] (tML X.K xc W (evl G [ca, cb]))) (hs : notStar a = true) (hs2 : notStar b = true) :
    PI X tg (.Call (.Name "range" p) [a, b] [] pos) (tMI X.K xc W (wkM G 2 [ca, cb])) := by
  refine PI.weak (pi_range2 hg hm ha (by rw [starEach_plain hs, starEach_plain hs2]; rfl) (by rw [starEach_plain hs2]; rfl)) fun σ H Q ⟨F, μ, S, ρ, rel, er, h⟩ => ⟨F, μ, S, ρ, rel, er, okL_of (g := seenW 2) h fun F1 H1 vs bs S1 p e1 r1 b1 hp k => ?_⟩
  obtain ⟨b, c, n, m, e, hb, hc, hr⟩ := seenW2 hp
  subst e
  obtain ⟨l, ex⟩ := range_some hr
  cases b1 with
  | cons bv rr =>
    cases rr with
    | cons cv rr =>
      cases rr
      rw [seen_int bv hb, seen_int cv hc]
      exact ⟨n, m, rfl, l, k (Itr n (m - n).toNat) ⟨wk_range ex, fun _ => wk_range ex⟩⟩
/-! ### comprehensions -/
theorem Rel.put {p : Addr} {o : HO} (r : Rel K F μ S H) (hF : F p = none) (hm : p ∉ μ) : Rel K F μ S (upd H p o) := by
  refine ⟨fun a u e => ?_, r.len, r.nd, fun k a xs e1 e2 => ?_, r.dis⟩
  · have q : a ≠ p := fun z => by rw [z, hF] at e; cases e
    rw [upd_ne q]; exact r.sub a u e
  · obtain ⟨vs, h1, h2⟩ := r.obj k a xs e1 e2
    have q : a ≠ p := fun z => hm (by rw [← z]; exact List.mem_of_getElem? e1)
    exact ⟨vs, by rw [upd_ne q]; exact h1, h2⟩
theorem Ext.put {p : Addr} {o : HO} {F' H' : Hp} (x : Ext μ F H F' H') (hp : H p = none) : Ext μ F H F' (upd H' p o) := by
  have nh : ∀ a, H a ≠ none → a ≠ p := fun a e z => e (by rw [z]; exact hp)
  refine ⟨x.fs, x.fn, fun a u e n m => ?_, fun a e => ?_⟩
  · rw [upd_ne (nh a (by rw [e]; intro z; cases z))]; exact x.keep a u e n m
  · rw [upd_ne (nh a e)]; exact x.live a e
theorem ev_comp {kind : Nat} {its : List CE} {tg : Tg} {own : List Nat} {conds : List CE} {elt : CE} {s : Store} :
    ev G (.comp kind its tg own conds elt) ρ s = (wkM G kind its ρ s).bind fun p s => (compL (turnC G tg own conds elt ρ) p.2 [] s).bind fun ys s => .ok (.own (.lst ys)) s := by
  rw [ev]
  unfold wkM
  cases evl G its ρ s with
  | bad => rfl
  | ex c p s1 => rfl
  | ok bs s1 =>
    simp only [R.bind, seenW]
    cases (seens bs).bind (walk kind) with
    | none => rfl
    | some xs => rfl
def WF0 : WX := fun _ _ _ _ => False
theorem compL_nx (f : D → Store → R (Option D)) : ∀ (xs acc : List D) (S : Store), ∀ c p s', compL f xs acc S ≠ .ex c p s' := by
  intro xs
  induction xs with
  | nil => intro acc S c p s' e; rw [compL] at e; cases e
  | cons x xs ih =>
    intro acc S c p s' e
    rw [compL] at e
    split at e
    · split at e
      · exact ih _ _ _ _ _ e
      · cases e
    · exact ih _ _ _ _ _ e
    · cases e
theorem comp_rd {kind : Nat} {its : List CE} {tg : Tg} {own : List Nat} {conds : List CE} {elt : CE} {Q : VK} (hsl : ∀ i ∈ tg.slots, i ∈ own) (h : tM K xc W (ev G (.comp kind its tg own conds elt)) σ H Q) :
    tLc (tMI K xc W (wkM G kind its)) (gOf K tg) (tMT K xc WF0 (evConds G conds)) (tM K xc WF0 (ev G elt)) own σ H Q := by
  obtain ⟨F, μ, S, ρ, rel, er, h⟩ := h
  rw [ev_comp] at h
  refine ⟨F, μ, S, ρ, rel, er, ?_⟩
  cases q : wkM G kind its ρ S with
  | bad => rw [q] at h; exact h.elim
  | ex c p S1 => rw [q] at h; exact h
  | ok p S1 =>
  obtain ⟨bs, xs⟩ := p
  rw [q] at h
  have h : okE K xc μ W F H σ ((compL (turnC G tg own conds elt ρ) xs [] S1).bind fun ys s => .ok (.own (.lst ys)) s) Q := h
  intro F1 H1 J e1 r1 wk D hD
  have wk := wk.1
  have nx := compL_nx (turnC G tg own conds elt ρ)
  cases qc : compL (turnC G tg own conds elt ρ) xs [] S1 with
  | bad => rw [qc] at h; exact h.elim
  | ex c p s' => exact absurd qc (nx _ _ _ _ _ _)
  | ok ys S2 =>
  rw [qc] at h
  have h : okE K xc μ W F H σ (.ok (.own (.lst ys)) S2) Q := h
  obtain ⟨o1, o2⟩ := r1.out hD
  refine ⟨fun i m H2 => m = xs.length - i ∧ i ≤ xs.length ∧ ∃ F2 Sx acc vs, Rel K F2 μ Sx H2 ∧ Ext μ F1 H1 F2 H2 ∧ H2 D = some (.lst vs) ∧ RpL K F2 vs acc ∧ F2 D = none ∧ compL (turnC G tg own conds elt ρ) (xs.drop i) acc Sx = .ok ys S2,
    ⟨_, rfl, Nat.zero_le _, F1, S1, [], [], r1.newOwn hD, Ext.newOwn hD, upd_same, .nil, o1, qc⟩, ?_⟩
  rintro i m H2 ⟨rfl, hi, F2, Sx, acc, vs, r2, e2, h2, a2, n2, q2⟩
  by_cases hlt : i < xs.length
  · refine .inr ⟨wk.go i F2 H2 ⟨e2, r2.sub⟩ hlt, _, fun H' p => ⟨xs.length - (i + 1), by omega, rfl, hlt, p⟩, fun x H' y => ?_⟩
    obtain ⟨eH, d, hd, rx⟩ := wk.yld i F2 H2 x H' ⟨e2, r2.sub⟩ y hlt
    subst eH
    have ed : xs.drop i = d :: xs.drop (i + 1) := by
      rw [List.drop_eq_getElem_cons hlt]
      rw [List.getElem?_eq_getElem hlt] at hd
      cases hd
      rfl
    rw [ed, compL] at q2
    cases qb : bindT tg d (wipe ρ own) with
    | none => simp [turnC, qb] at q2
    | some ρ' =>
    have qt : turnC G tg own conds elt ρ d Sx = (evConds G conds ρ' Sx).bind fun k s => if k then (ev G elt ρ' s).bind fun b s => .of (b.frz.map some) s else .ok none s := by simp [turnC, qb]
    rw [qt] at q2
    refine bindT_ok tg qb r2.sub rx ((er.step (e1.trans e2)).wipe own) fun σ' er' w _ => ⟨(w own hsl).trans wipe_wipe, F2, μ, Sx, ρ', r2, er', ?_⟩
    cases qk : evConds G conds ρ' Sx with
    | bad => rw [qk] at q2; cases q2
    | ex c p s1 => rw [qk] at q2; cases q2
    | ok k S3 =>
    rw [qk] at q2
    intro F3 H3 e3 r3
    have h3 := e3.keep D _ h2 (fun _ z => by cases z) o2
    have n3 : F3 D = none := (e3.fn D (by rw [h2]; intro z; cases z)).trans n2
    cases k with
    | false =>
      rw [if_neg (by decide)]
      exact ⟨F3, S3, acc, vs, r3, e2.trans e3, h3, a2.mono e3.fs, n3, q2⟩
    | true =>
      rw [if_pos rfl]
      refine ⟨F3, μ, S3, ρ', r3, er'.step e3, ?_⟩
      cases qe : ev G elt ρ' S3 with
      | bad => simp [R.bind, qe] at q2
      | ex c p s1 => simp [R.bind, qe] at q2
      | ok b S4 =>
      cases qf : b.frz with
      | none => simp [R.bind, qe, qf, R.of] at q2
      | some d' =>
      simp only [R.bind, qe, qf, R.of, Option.map_some, if_true] at q2
      have hln : acc.length < line := Decidable.byContradiction fun z => by rw [if_neg z] at q2; cases q2
      rw [if_pos hln] at q2
      refine okE_still ?_
      intro F4 H4 v e4 r4 bv _
      have eb : b.still = .t d' := still_frz qf
      rw [eb] at bv
      have h4 := e4.keep D _ h3 (fun _ z => by cases z) o2
      have n4 : F4 D = none := (e4.fn D (by rw [h3]; intro z; cases z)).trans n3
      refine ⟨vs, h4, by rw [a2.length, ← line_eq]; exact hln, F4, S4, acc ++ [d'], vs ++ [v], r4.put n4 o2, ((e2.trans e3).trans e4).put hD, upd_same, ((a2.mono e3.fs).mono e4.fs).append (.cons bv .nil), n4, q2⟩
  · have e : i = xs.length := by omega
    subst e
    refine .inl ⟨wk.stop F2 H2 ⟨e2, r2.sub⟩, ?_⟩
    rw [List.drop_length, compL] at q2
    cases q2
    refine h F2 H2 _ (e1.trans e2) r2 ⟨D, vs, _, rfl, rfl, h2, a2, n2, o2⟩ fun a ea => ?_
    cases ea
    cases qH : H D with
    | none => rfl
    | some o => exact absurd hD (e1.live D (by rw [qH]; intro z; cases z))
theorem r_comp {tg iter elt : Expr} {ifs : List Expr} {scope : Scope} {own : List (Str × Nat)} {pos : Pos} {kind : Nat} {its : List CE} {tgc : Tg} {ownc : List Nat} {conds : List CE} {celt : CE} (hc : X.calm = true) (hN : X.N.Nodup)
    (hi : PI X tg iter (tMI X.K xc W (wkM G kind its))) (ok : BlkOk X.N X.env.scope scope own) (ho : own.map (·.2) = ownc) (hsl : ∀ i ∈ tgc.slots, i ∈ ownc)
    (hg : ∀ (s : Shared) (H : Hp) (C : Addr) (cl : List (Str × Addr)) (fp : List Addr), PG (X.blk s H scope (compEnvC scope cl C X.env) fp) tg (gOf X.K tgc))
    (ht : ∀ (s : Shared) (H : Hp) (C : Addr) (cl : List (Str × Addr)) (fp : List Addr), PTs (X.blk s H scope (compEnvC scope cl C X.env) fp) ifs (tMT X.K xc WF0 (evConds G conds)))
    (he : ∀ (s : Shared) (H : Hp) (C : Addr) (cl : List (Str × Addr)) (fp : List Addr), PE (X.blk s H scope (compEnvC scope cl C X.env) fp) elt (tM X.K xc WF0 (ev G celt)))
    (hs : ∀ x, foldedSetIterable iter X.env x = pure x) : PE X (.ListComp elt [⟨tg, iter, ifs, 0⟩] scope pos) (tM X.K xc W (ev G (.comp kind its tgc ownc conds celt))) :=
  PE.weak (pe_lc hc hN hi ok hg ht he hs) fun σ H Q q => by
    rw [ho]
    exact comp_rd hsl q
theorem ts_nil : PTs X [] (tMT X.K xc W (evConds G [])) := ⟨fun pins s σ H Q I ⟨F, μ, S, ρ, rel, er, h⟩ => pts_nil.run pins s σ H Q I (h F H (Ext.refl _ _ _) rel)⟩
theorem ts_one {e : Expr} {c : CE} (h : PT X e (tMT X.K xc W (evT G c))) : PTs X [e] (tMT X.K xc W (evConds G [c])) := ⟨fun pins s σ H Q I ⟨F, μ, S, ρ, rel, er, q⟩ => (pts_one h).run pins s σ H Q I ⟨F, μ, S, ρ, rel, er, by
  have e : evConds G [c] ρ S = evT G c ρ S := by
    unfold evT
    rw [evConds]
    cases ev G c ρ S with
    | ok x s =>
      simp only [R.bind]
      cases truB x s with
      | none => rfl
      | some k => cases k <;> simp [R.of, evConds]
    | ex c p s => rfl
    | bad => rfl
  rw [← e]
  exact q⟩⟩
end
end Zw
set_option Elab.async false
set_option linter.all false
set_option maxRecDepth 100000
/-! Zw7: statements. -/
namespace Zw
open PySem PySem.Spec PyProof.Rows L2
/-- the state within a def that was entered at F0, μ0, H0 -/
structure SR (K : PySem.W.Frag) (F0 : Hp) (μ0 : List Addr) (H0 F : Hp) (μ : List Addr) (S : Store) (H : Hp) (ρ : Env) (σ : L2.St) : Prop where
  rel : Rel K F μ S H
  er : ER K F μ H ρ σ
  ext : Ext μ0 F0 H0 F H
  pre : ∃ ν, μ = μ0 ++ ν ∧ ∀ a ∈ ν, H0 a = none
  own : ∀ (i : Nat) (d : D) (a : Addr), ρ[i]? = some (some (B.own d)) → σ[i]? = some (some (V.ref a)) → H0 a = none
def okSt (K : PySem.W.Frag) (xc : Nat → Option XCls) (F0 : Hp) (μ0 : List Addr) (H0 : Hp) (W : WX) (D : Ends) (r : RS) : Prop := match r with
  | .nx ρ' S' => ∀ F' μ' H' σ', SR K F0 μ0 H0 F' μ' S' H' ρ' σ' → D.nx σ' H'
  | .bk ρ' S' => ∀ F' μ' H' σ', SR K F0 μ0 H0 F' μ' S' H' ρ' σ' → D.bk σ' H'
  | .ct ρ' S' => ∀ F' μ' H' σ', SR K F0 μ0 H0 F' μ' S' H' ρ' σ' → D.ct σ' H'
  | .rt b S' => ∀ F' μ' H' v, Rel K F' μ' S' H' → Ext μ0 F0 H0 F' H' → (∃ ν, μ' = μ0 ++ ν ∧ ∀ a ∈ ν, H0 a = none) → BRp K F' μ' H' v b → Fresh H0 v b → b.give = some b → D.rt v H'
  | .ex c p ρ' S' => ∀ F' μ' H' σ' cls d, SR K F0 μ0 H0 F' μ' S' H' ρ' σ' → XR K xc F' H' c p cls d → W cls d σ' H'
  | .bad => False
def tMS (K : PySem.W.Frag) (xc : Nat → Option XCls) (W : WX) (m : Env → Store → RS) : TS := fun D σ H =>
  ∃ F0 μ0 H0 F μ S ρ, SR K F0 μ0 H0 F μ S H ρ σ ∧ okSt K xc F0 μ0 H0 W D (m ρ S)
section
variable {X : Cx} {K : PySem.W.Frag} {xc : Nat → Option XCls} {W : WX} {F0 F H0 H F1 H1 : Hp} {μ0 μ : List Addr} {S S1 : Store} {σ : L2.St} {ρ : Env} {G : Gx} {D : Ends}
theorem Ext.under (x : Ext μ0 F0 H0 F H) (p : ∃ ν, μ = μ0 ++ ν ∧ ∀ a ∈ ν, H0 a = none) (y : Ext μ F H F1 H1) : Ext μ0 F0 H0 F1 H1 := by
  obtain ⟨ν, rfl, hν⟩ := p
  refine ⟨fun a o h => y.fs a o (x.fs a o h), fun a h => (y.fn a (x.live a h)).trans (x.fn a h), fun a o h n m => y.keep a o (x.keep a o h n m) n fun z => ?_, fun a h => y.live a (x.live a h)⟩
  rcases List.mem_append.mp z with z | z
  · exact m z
  · rw [hν a z] at h; cases h
theorem SR.step (s : SR K F0 μ0 H0 F μ S H ρ σ) (e : Ext μ F H F1 H1) (r : Rel K F1 μ S1 H1) : SR K F0 μ0 H0 F1 μ S1 H1 ρ σ :=
  ⟨r, s.er.step e, s.ext.under s.pre e, s.pre, s.own⟩
/-! ### an expression within a statement -/
theorem toE {r : R B} {g : B → Store → RS} {Q : VK} (s : SR K F0 μ0 H0 F μ S H ρ σ) (h : okSt K xc F0 μ0 H0 W D (r.to ρ g))
    (k : ∀ F1 H1 v b S1, Ext μ F H F1 H1 → SR K F0 μ0 H0 F1 μ S1 H1 ρ σ → BRp K F1 μ H1 v b → Fresh H v b → okSt K xc F0 μ0 H0 W D (g b S1) → Q v H1) : okE K xc μ W F H σ r Q := by
  cases r with
  | ok b S1 => exact fun F1 H1 v e r1 bv fr => k F1 H1 v b S1 e (s.step e r1) bv fr h
  | ex c p S1 => exact fun F1 H1 cls d e r1 x => h F1 μ H1 σ cls d (s.step e r1) x
  | bad => exact h
/-- the same, a fresh list taken for a tree -/
theorem toEs {r : R B} {g : B → Store → RS} {Q : VK} (s : SR K F0 μ0 H0 F μ S H ρ σ) (h : okSt K xc F0 μ0 H0 W D (r.to ρ g))
    (k : ∀ F1 H1 v b S1, Ext μ F H F1 H1 → SR K F0 μ0 H0 F1 μ S1 H1 ρ σ → BRp K F1 μ H1 v b.still → okSt K xc F0 μ0 H0 W D (g b S1) → Q v H1) : okE K xc μ W F H σ r Q := by
  refine okE_still ?_
  cases r with
  | ok b S1 => exact fun F1 H1 v e r1 bv fr => k F1 H1 v b S1 e (s.step e r1) bv h
  | ex c p S1 => exact fun F1 H1 cls d e r1 x => h F1 μ H1 σ cls d (s.step e r1) x
  | bad => exact h
theorem toT {r : R Bool} {g : Bool → Store → RS} {Q : Bool → Hp → Prop} (s : SR K F0 μ0 H0 F μ S H ρ σ) (h : okSt K xc F0 μ0 H0 W D (r.to ρ g))
    (k : ∀ F1 H1 b S1, SR K F0 μ0 H0 F1 μ S1 H1 ρ σ → okSt K xc F0 μ0 H0 W D (g b S1) → Q b H1) : okT K xc μ W F H σ r Q := by
  cases r with
  | ok b S1 => exact fun F1 H1 e r1 => k F1 H1 b S1 (s.step e r1) h
  | ex c p S1 => exact fun F1 H1 cls d e r1 x => h F1 μ H1 σ cls d (s.step e r1) x
  | bad => exact h
/-! ### slots -/
theorem ER.setB (er : ER K F μ H ρ σ) {i : Nat} {v : V} {b : B} (h : BRp K F μ H v b) (hb : b.give = some b)
    (hs : ∀ (d : Zw.D) (a : Addr), b = .own d → v = .ref a → ∀ (j : Nat) (d' : Zw.D), (ρ[j]? = some (some (B.own d')) ∨ ρ[j]? = some (some (B.bor d'))) → σ[j]? ≠ some (some (V.ref a))) : ER K F μ H (ρ.set i (some b)) (σ.set i (some v)) := by
  have hl := er.len
  have gs : ∀ (j : Nat) (c : B), (ρ.set i (some b))[j]? = some (some c) → (j = i ∧ c = b ∧ i < ρ.length) ∨ (j ≠ i ∧ ρ[j]? = some (some c)) := fun j c e => by
    by_cases q : j = i
    · subst q
      by_cases l : j < ρ.length
      · rw [List.getElem?_set_self l] at e
        cases e
        exact .inl ⟨rfl, rfl, l⟩
      · rw [List.getElem?_eq_none (by simpa using l)] at e; cases e
    · rw [List.getElem?_set_ne (Ne.symm q)] at e
      exact .inr ⟨q, e⟩
  refine ⟨by simpa using hl, fun j c e => ?_, fun j k d1 d2 a n e1 e2 e3 => ?_⟩
  · rcases gs j c e with ⟨q, e2, l⟩ | ⟨q, e2⟩
    · subst q e2
      exact ⟨v, List.getElem?_set_self (by omega), h⟩
    · obtain ⟨w, h1, h2⟩ := er.val j c e2
      exact ⟨w, by rw [List.getElem?_set_ne (Ne.symm q)]; exact h1, h2⟩
  · have g2 : (k = i ∧ b = .own d2) ∨ (k ≠ i ∧ (ρ[k]? = some (some (.own d2)) ∨ ρ[k]? = some (some (.bor d2)))) := by
      rcases e2 with e2 | e2
      · rcases gs k _ e2 with ⟨q, e2, _⟩ | x
        · exact .inl ⟨q, e2.symm⟩
        · exact .inr ⟨x.1, .inl x.2⟩
      · rcases gs k _ e2 with ⟨q, e2, _⟩ | x
        · rw [← e2] at hb; cases hb
        · exact .inr ⟨x.1, .inr x.2⟩
    rcases gs j _ e1 with ⟨qj, eb, lj⟩ | ⟨qj, ej⟩
    · rcases g2 with ⟨qk, _⟩ | ⟨qk, ek⟩
      · exact absurd (qj.trans qk.symm) n
      · rw [qj, List.getElem?_set_self (by omega)] at e3
        cases e3
        rw [List.getElem?_set_ne (Ne.symm qk)]
        exact hs d1 a eb.symm rfl k d2 ek
    · rw [List.getElem?_set_ne (Ne.symm qj)] at e3
      rcases g2 with ⟨qk, eb⟩ | ⟨qk, ek⟩
      · rw [qk]
        intro z
        by_cases l : i < σ.length
        · rw [List.getElem?_set_self l] at z
          cases z
          exact hs d2 a eb rfl j d1 (.inl ej) e3
        · rw [List.getElem?_eq_none (by simpa using l)] at z; cases z
      · rw [List.getElem?_set_ne (Ne.symm qk)]
        exact er.sep j k d1 d2 a n ej ek e3
theorem SR.setB (s : SR K F0 μ0 H0 F μ S H ρ σ) {i : Nat} {v : V} {b : B} (h : BRp K F μ H v b) (hb : b.give = some b)
    (hs : ∀ (d : Zw.D) (a : Addr), b = .own d → v = .ref a → H0 a = none ∧ ∀ (j : Nat) (d' : Zw.D), (ρ[j]? = some (some (B.own d')) ∨ ρ[j]? = some (some (B.bor d'))) → σ[j]? ≠ some (some (V.ref a))) : SR K F0 μ0 H0 F μ S H (ρ.set i (some b)) (σ.set i (some v)) := by
  refine ⟨s.rel, s.er.setB h hb fun d a e1 e2 => (hs d a e1 e2).2, s.ext, s.pre, fun j d a e1 e2 => ?_⟩
  by_cases q : j = i
  · subst q
    by_cases l : j < ρ.length
    · rw [List.getElem?_set_self l] at e1
      rw [List.getElem?_set_self (by rw [← s.er.len]; exact l)] at e2
      cases e1
      cases e2
      exact (hs d a rfl rfl).1
    · rw [List.getElem?_eq_none (by simpa using l)] at e1; cases e1
  · rw [List.getElem?_set_ne (Ne.symm q)] at e1 e2
    exact s.own j d a e1 e2
/-- own and borrowed lists lie in the heap -/
theorem ER.live (er : ER K F μ H ρ σ) {j : Nat} {d : Zw.D} {a : Addr} (e : ρ[j]? = some (some (B.own d)) ∨ ρ[j]? = some (some (B.bor d))) (h : σ[j]? = some (some (V.ref a))) : H a ≠ none := by
  have : ∃ v, σ[j]? = some (some v) ∧ OwnAt K F μ H v d := by
    rcases e with e | e
    · exact er.val j _ e
    · exact er.val j _ e
  obtain ⟨v, h1, c, xs, ds, e1, _, h2, _⟩ := this
  rw [h] at h1
  cases h1
  cases e1
  rw [h2]
  intro z
  cases z
theorem give_eq {b c : B} (h : b.give = some c) : c = b ∧ b.give = some b := by
  cases b with
  | t d => cases h; exact ⟨rfl, rfl⟩
  | own d => cases h; exact ⟨rfl, rfl⟩
  | bor d => cases h
  | sc d => cases h
  | r k => cases h
theorem SR.fresh (s : SR K F0 μ0 H0 F μ S H ρ σ) {v : V} {b : B} (fr : Fresh H v b) : ∀ (d : Zw.D) (a : Addr), b = .own d → v = .ref a → H0 a = none ∧ ∀ (j : Nat) (d' : Zw.D), (ρ[j]? = some (some (B.own d')) ∨ ρ[j]? = some (some (B.bor d'))) → σ[j]? ≠ some (some (V.ref a)) := by
  intro d a e1 e2
  subst e1
  have hn : H a = none := fr a e2
  refine ⟨?_, fun j d' e3 e4 => s.er.live e3 e4 hn⟩
  cases q : H0 a with
  | none => rfl
  | some o => exact absurd hn (s.ext.live a (by rw [q]; intro z; cases z))
/-- as trees alone -/
theorem SR.bind {tg : Tg} {d : Zw.D} {v : V} {ρ' : Env} {Q : L2.St → Hp → Prop} (s : SR K F0 μ0 H0 F μ S H ρ σ) (h : bindT tg d ρ = some ρ') (r : Rp K F v d) (k : ∀ σ', SR K F0 μ0 H0 F μ S H ρ' σ' → Q σ' H) : gOf K tg v σ H Q :=
  bindT_ok tg h s.rel.sub r s.er fun σ' er' _ o => k σ' ⟨s.rel, er', s.ext, s.pre, fun i d a e1 e2 => by
    obtain ⟨h1, h2⟩ := o i d e1
    exact s.own i d a h1 (by rw [← h2]; exact e2)⟩
/-! ### small statements -/
theorem s_pass {pos : Pos} : PS X (.Pass pos) (tMS X.K xc W (exec G .pass)) := PS.weak ps_pass fun D σ H ⟨F0, μ0, H0, F, μ, S, ρ, s, h⟩ => by
  rw [exec] at h
  exact h F μ H σ s
theorem s_brk {pos : Pos} : PS X (.Break pos) (tMS X.K xc W (exec G .brk)) := PS.weak ps_break fun D σ H ⟨F0, μ0, H0, F, μ, S, ρ, s, h⟩ => by
  rw [exec] at h
  exact h F μ H σ s
theorem s_cont {pos : Pos} : PS X (.Continue pos) (tMS X.K xc W (exec G .cont)) := PS.weak ps_continue fun D σ H ⟨F0, μ0, H0, F, μ, S, ρ, s, h⟩ => by
  rw [exec] at h
  exact h F μ H σ s
theorem s_never {st : Stmt} : PS X st (tMS X.K xc W (exec G .never)) := PS.weak ps_never fun D σ H ⟨F0, μ0, H0, F, μ, S, ρ, s, h⟩ => by
  rw [exec] at h
  exact h
theorem s_expr {e : Expr} {c : CE} {pos : Pos} (he : PE X e (tM X.K xc W (ev G c))) (hs : swapsWith e none pos.line X.env = pure false) : PS X (.Expr e pos) (tMS X.K xc W (exec G (.expr c))) :=
  PS.weak (ps_expr he hs) fun D σ H ⟨F0, μ0, H0, F, μ, S, ρ, s, h⟩ => ⟨F, μ, S, ρ, s.rel, s.er, toE (g := fun _ s => .nx ρ s) s (by rw [exec] at h; exact h) fun F1 H1 v b S1 e1 s1 bv fr h1 => h1 F1 μ H1 σ s1⟩
theorem asg_rd {i : Nat} {c : CE} {σ : L2.St} {H : Hp} (h : tMS K xc W (exec G (.asg i c)) D σ H) : tAsg (tM K xc W (ev G c)) (gName i) D σ H := by
  obtain ⟨F0, μ0, H0, F, μ, S, ρ, s, h⟩ := h
  refine ⟨F, μ, S, ρ, s.rel, s.er, toE s (by rw [exec] at h; exact h) fun F1 H1 v b S1 e1 s1 bv fr h1 => ?_⟩
  cases q : b.give with
  | none => rw [q] at h1; exact h1.elim
  | some c =>
    rw [q] at h1
    obtain ⟨rfl, hb⟩ := give_eq q
    have hs := s.fresh fr
    exact h1 F1 μ H1 _ (s1.setB bv hb hs)
theorem s_asg {i : Nat} {x : Str} {e : Expr} {c : CE} {pos pos' : Pos} (hN : X.N.Nodup) (hi : X.N[i]? = some x) (hx : Loc X.env.scope x) (he : PE X e (tM X.K xc W (ev G c))) (hs : swapsWith e (some (.Name x pos')) pos.line X.env = pure false)
    (hf : X.fn x = true ∨ X.env.scope.names.lookup x = some .local) : PS X (.Assign [.Name x pos'] e pos) (tMS X.K xc W (exec G (.asg i c))) :=
  PS.weak (ps_set hN hi hx he hs hf) fun D σ H h => asg_rd h
theorem frz_still {b : B} {d : Zw.D} (h : b.frz = some d) {v : V} (bv : BRp K F μ H v b.still) : Rp K F v d := by rw [still_frz h] at bv; exact bv
theorem s_asgT {tg e : Expr} {t : Tg} {c : CE} {pos : Pos} (he : PE X e (tM X.K xc W (ev G c))) (hg : PG X tg (gOf X.K t)) (hs : swapsWithSole [tg] e pos.line X.env = pure false) (hw : swappedStores [tg] e X.env = pure none)
    (h1 : (assignEach [tg] X.env).map (·.2) = [assign tg X.env]) : PS X (.Assign [tg] e pos) (tMS X.K xc W (exec G (.asgT t c))) :=
  PS.weak (ps_asg he hg hs hw h1) fun D σ H ⟨F0, μ0, H0, F, μ, S, ρ, s, h⟩ => by
    refine ⟨F, μ, S, ρ, s.rel, s.er, toEs s (by rw [exec] at h; exact h) fun F1 H1 v b S1 e1 s1 bv h1 => ?_⟩
    cases q : b.frz with
    | none => rw [q] at h1; exact h1.elim
    | some d =>
      rw [q] at h1
      have h1 : okSt X.K xc F0 μ0 H0 W D (match bindT t d ρ with | some ρ' => .nx ρ' S1 | none => .bad) := h1
      cases q2 : bindT t d ρ with
      | none => rw [q2] at h1; exact h1.elim
      | some ρ' =>
        rw [q2] at h1
        exact s1.bind q2 (frz_still q bv) fun σ' s' => h1 F1 μ H1 σ' s'
theorem s_retN {pos : Pos} : PS X (.Return none pos) (tMS X.K xc W (exec G .retN)) := PS.weak ps_retN fun D σ H ⟨F0, μ0, H0, F, μ, S, ρ, s, h⟩ => by
  rw [exec] at h
  exact h F μ H .non s.rel s.ext s.pre .non trivial rfl
theorem s_retV {i : Nat} {e : Expr} {pos : Pos} (he : PE X e (tVar i)) : PS X (.Return (some e) pos) (tMS X.K xc W (exec G (.ret (.var i)))) := PS.weak (ps_ret he) fun D σ H ⟨F0, μ0, H0, F, μ, S, ρ, s, h⟩ => by
  rw [exec] at h
  cases q : ρ[i]? with
  | none => rw [q] at h; exact h.elim
  | some o => cases o with
    | none => rw [q] at h; exact h.elim
    | some b =>
      rw [q] at h
      obtain ⟨v, h1, h2⟩ := s.er.val i b q
      refine ⟨v, h1, ?_⟩
      have h' : okSt X.K xc F0 μ0 H0 W D (match b.give with | some b => .rt b S | none => .bad) := h
      cases q2 : b.give with
      | none => rw [q2] at h'; exact h'.elim
      | some c =>
        rw [q2] at h'
        obtain ⟨rfl, hb⟩ := give_eq q2
        refine h' F μ H v s.rel s.ext s.pre h2 ?_ hb
        cases c with
        | own d => exact fun a e => s.own i d a q (by rw [h1, e])
        | t d => trivial
        | _ => cases hb
/-! an owned list stands still -/
theorem SR.frz (s : SR K F0 μ0 H0 F μ S H ρ σ) {i : Nat} {b : B} (hi : ρ[i]? = some (some b)) : ∃ F', SR K F0 μ0 H0 F' μ S H (ρ.set i (some b.still)) σ ∧ Same F F' := by
  have hσ : ∀ {v : V}, σ[i]? = some (some v) → σ.set i (some v) = σ := fun {v} e => by
    refine List.ext_getElem? fun j => ?_
    by_cases q : j = i
    · subst q
      rw [List.getElem?_set_self (List.getElem?_eq_some_iff.mp e).1, e]
    · rw [List.getElem?_set_ne (Ne.symm q)]
  obtain ⟨v, h1, h2⟩ := s.er.val i b hi
  have plain : b.still = b → ∃ F', SR K F0 μ0 H0 F' μ S H (ρ.set i (some b.still)) σ ∧ Same F F' := fun e => by
    refine ⟨F, ?_, fun _ _ h => h⟩
    rw [e, show ρ.set i (some b) = ρ from List.ext_getElem? fun j => by
      by_cases q : j = i
      · subst q
        rw [List.getElem?_set_self (List.getElem?_eq_some_iff.mp hi).1, hi]
      · rw [List.getElem?_set_ne (Ne.symm q)]]
    exact s
  cases b with
  | t d => exact plain rfl
  | bor d => exact plain rfl
  | sc d => exact plain rfl
  | r k => exact plain rfl
  | own d =>
    obtain ⟨a, xs, ds, e1, e2, ha, rs, n, m⟩ := h2
    subst e1 e2
    have h0 := s.own i _ a hi h1
    have sF : Same F (upd F a (.lst xs)) := fun b o e => by
      have q : b ≠ a := fun z => by rw [z, n] at e; cases e
      rw [upd_ne q]; exact e
    have r' := s.rel.still ha n m
    refine ⟨_, ?_, sF⟩
    have gs : ∀ (j : Nat) (c : B), (ρ.set i (some (B.own (.lst ds)).still))[j]? = some (some c) → (j = i ∧ c = .t (.lst ds)) ∨ (j ≠ i ∧ ρ[j]? = some (some c)) := fun j c e => by
      by_cases q : j = i
      · subst q
        rw [List.getElem?_set_self (List.getElem?_eq_some_iff.mp hi).1] at e
        cases e
        exact .inl ⟨rfl, rfl⟩
      · rw [List.getElem?_set_ne (Ne.symm q)] at e
        exact .inr ⟨q, e⟩
    have own' : ∀ (j : Nat) (w : V) (d : Zw.D), j ≠ i → (ρ[j]? = some (some (B.own d)) ∨ ρ[j]? = some (some (B.bor d))) → σ[j]? = some (some w) → OwnAt K F μ H w d → OwnAt K (upd F a (.lst xs)) μ H w d := fun j w d q ej hw ⟨c, ys, es, e1, e2, hc, rc, nc, mc⟩ => by
      have qa : c ≠ a := fun z => by
        subst e1 z
        exact s.er.sep i j _ d c (Ne.symm q) hi ej h1 hw
      exact ⟨c, ys, es, e1, e2, hc, rc.mono sF, by rw [upd_ne qa]; exact nc, mc⟩
    refine ⟨r', ⟨by rw [List.length_set]; exact s.er.len, fun j c e => ?_, fun j k d1 d2 a1 nn e1 e2 e3 => ?_⟩, s.ext.still n h0, s.pre, fun j d a1 e1 e2 => ?_⟩
    · rcases gs j c e with ⟨q, e2⟩ | ⟨q, e2⟩
      · subst q e2
        exact ⟨_, h1, .lst upd_same (rs.mono sF)⟩
      · obtain ⟨w, hw, bw⟩ := s.er.val j c e2
        refine ⟨w, hw, ?_⟩
        cases c with
        | t d => exact Rp.mono sF bw
        | own d => exact own' j w d q (.inl e2) hw bw
        | bor d => exact own' j w d q (.inr e2) hw bw
        | sc d => obtain ⟨c, ys, es, e1, e2, hc, rc⟩ := bw; exact ⟨c, ys, es, e1, e2, hc, rc.mono sF⟩
        | r k => exact bw
    · rcases gs j _ e1 with ⟨_, z⟩ | ⟨_, e1⟩
      · cases z
      · refine s.er.sep j k d1 d2 a1 nn e1 ?_ e3
        rcases e2 with e2 | e2
        · rcases gs k _ e2 with ⟨_, z⟩ | ⟨_, e2⟩
          · cases z
          · exact .inl e2
        · rcases gs k _ e2 with ⟨_, z⟩ | ⟨_, e2⟩
          · cases z
          · exact .inr e2
    · rcases gs j _ e1 with ⟨_, z⟩ | ⟨_, e1⟩
      · cases z
      · exact s.own j d a1 e1 e2
theorem SR.still (s : SR K F0 μ0 H0 F μ S H ρ σ) : ∃ F', SR K F0 μ0 H0 F' μ S H (Zw.still ρ) σ ∧ Same F F' := by
  have go : ∀ n, n ≤ ρ.length → ∃ F', SR K F0 μ0 H0 F' μ S H ((Zw.still ρ).take n ++ ρ.drop n) σ ∧ Same F F' := by
    intro n
    induction n with
    | zero => intro _; exact ⟨F, by simpa using s, fun _ _ h => h⟩
    | succ n ih =>
      intro hn
      obtain ⟨F', s', sF⟩ := ih (by omega)
      have hl : ((Zw.still ρ).take n).length = n := by simp [Zw.still]; omega
      have hg : ((Zw.still ρ).take n ++ ρ.drop n)[n]? = ρ[n]? := by
        rw [List.getElem?_append_right (by omega), hl, Nat.sub_self, List.getElem?_drop]
        rfl
      have he : ρ[n]? = some (ρ[n]'(by omega)) := List.getElem?_eq_getElem _
      have nxt : ∀ o, ρ[n]? = some o → (Zw.still ρ).take (n + 1) ++ ρ.drop (n + 1) = ((Zw.still ρ).take n ++ ρ.drop n).set n (o.map B.still) := fun o eo => by
        refine List.ext_getElem? fun j => ?_
        have hl2 : ((Zw.still ρ).take (n + 1)).length = n + 1 := by simp [Zw.still]; omega
        by_cases q : j = n
        · subst q
          rw [List.getElem?_set_self (by rw [List.length_append, hl, List.length_drop]; omega), List.getElem?_append_left (by omega), List.getElem?_take_of_lt (by omega)]
          unfold Zw.still
          rw [List.getElem?_map, eo]
          rfl
        · rw [List.getElem?_set_ne (Ne.symm q)]
          by_cases l : j < n
          · rw [List.getElem?_append_left (by omega), List.getElem?_append_left (by omega), List.getElem?_take_of_lt (by omega), List.getElem?_take_of_lt l]
          · rw [List.getElem?_append_right (by omega), List.getElem?_append_right (by omega), hl, hl2, List.getElem?_drop, List.getElem?_drop]
            congr 1
            omega
      cases q : ρ[n]? with
      | none => rw [q] at he; cases he
      | some o =>
        rw [nxt o q]
        cases o with
        | none =>
          refine ⟨F', ?_, sF⟩
          rw [show ((Zw.still ρ).take n ++ ρ.drop n).set n (Option.map B.still none) = (Zw.still ρ).take n ++ ρ.drop n from List.ext_getElem? fun j => by
            by_cases qj : j = n
            · subst qj
              rw [List.getElem?_set_self (by rw [List.length_append, hl, List.length_drop]; omega), hg, q]
              rfl
            · rw [List.getElem?_set_ne (Ne.symm qj)]]
          exact s'
        | some b =>
          obtain ⟨F2, s2, sF2⟩ := s'.frz (i := n) (b := b) (by rw [hg, q])
          exact ⟨F2, s2, fun a o h => sF2 a o (sF a o h)⟩
  obtain ⟨F', s', sF⟩ := go ρ.length (Nat.le_refl _)
  refine ⟨F', ?_, sF⟩
  have hl : (Zw.still ρ).length = ρ.length := by simp [Zw.still]
  rw [List.drop_length, List.append_nil, ← hl, List.take_length] at s'
  exact s'
theorem exec_ret {c : CE} (nv : ∀ i, c ≠ .var i) : exec G (.ret c) ρ S = (ev G c (Zw.still ρ) S).to (Zw.still ρ) fun b s => match b.give with
        | some b => .rt b s
        | none => .bad := by
  cases c <;> first | exact absurd rfl (nv _) | rfl
end
end Zw
set_option Elab.async false
set_option linter.all false
set_option maxRecDepth 100000
/-! Zw8: statements, second part. -/
namespace Zw
open PySem PySem.Spec PyProof.Rows L2
section
variable {X : Cx} {K : PySem.W.Frag} {xc : Nat → Option XCls} {W : WX} {F0 F H0 H F1 H1 : Hp} {μ0 μ : List Addr} {S S1 : Store} {σ : L2.St} {ρ : Env} {G : Gx} {D : Ends}
theorem s_ret {e : Expr} {c : CE} {pos : Pos} (nv : ∀ i, c ≠ .var i) (he : PE X e (tM X.K xc W (ev G c))) : PS X (.Return (some e) pos) (tMS X.K xc W (exec G (.ret c))) :=
  PS.weak (ps_ret he) fun D σ H ⟨F0, μ0, H0, F, μ, S, ρ, s, h⟩ => by
    rw [exec_ret nv] at h
    obtain ⟨F', s', sF⟩ := s.still
    refine ⟨F', μ, S, Zw.still ρ, s'.rel, s'.er, toE s' h fun F1 H1 v b S1 e1 s1 bv fr h1 => ?_⟩
    cases q : b.give with
    | none => rw [q] at h1; exact h1.elim
    | some c =>
      rw [q] at h1
      obtain ⟨rfl, hb⟩ := give_eq q
      refine h1 F1 μ H1 v s1.rel s1.ext s1.pre bv ?_ hb
      cases c with
      | own d => exact fun a e => (s'.fresh fr d a rfl e).1
      | t d => trivial
      | _ => cases hb
/-! ### if, blocks -/
theorem evT_to {c : CE} : ∀ {g : Bool → Store → RS}, (evT G c ρ S).to ρ g = (evT G c ρ S).to ρ g := rfl
theorem s_ite {c : Expr} {a b : List Stmt} {cc : CE} {ca cb : List CS} {pos : Pos} (hc : PT X c (tMT X.K xc W (evT G cc))) (ha : PSs X a (tMS X.K xc W (execs G ca))) (hb : PSs X b (tMS X.K xc W (execs G cb))) :
    PS X (.If c a b pos) (tMS X.K xc W (exec G (.ite cc ca cb))) :=
  PS.weak (ps_if hc ha hb) fun D σ H ⟨F0, μ0, H0, F, μ, S, ρ, s, h⟩ => by
    rw [exec] at h
    refine ⟨F, μ, S, ρ, s.rel, s.er, toT s h fun F1 H1 k S1 s1 h1 => ?_⟩
    cases k with
    | true => exact ⟨F0, μ0, H0, F1, μ, S1, ρ, s1, h1⟩
    | false => exact ⟨F0, μ0, H0, F1, μ, S1, ρ, s1, h1⟩
theorem ss_nil : PSs X [] (tMS X.K xc W (execs G [])) := PSs.weak pss_nil fun D σ H ⟨F0, μ0, H0, F, μ, S, ρ, s, h⟩ => by
  rw [execs] at h
  exact h F μ H σ s
theorem ss_cons {st : Stmt} {sts : List Stmt} {c : CS} {cs : List CS} (h1 : PS X st (tMS X.K xc W (exec G c))) (h2 : PSs X sts (tMS X.K xc W (execs G cs))) : PSs X (st :: sts) (tMS X.K xc W (execs G (c :: cs))) :=
  PSs.weak (pss_cons h1 h2) fun D σ H ⟨F0, μ0, H0, F, μ, S, ρ, s, h⟩ => by
    rw [execs] at h
    refine ⟨F0, μ0, H0, F, μ, S, ρ, s, ?_⟩
    cases q : exec G c ρ S with
    | nx ρ' S' => rw [q] at h; exact fun F' μ' H' σ' s' => ⟨F0, μ0, H0, F', μ', S', ρ', s', h⟩
    | bk ρ' S' => rw [q] at h; exact h
    | ct ρ' S' => rw [q] at h; exact h
    | rt b S' => rw [q] at h; exact h
    | ex c p ρ' S' => rw [q] at h; exact h
    | bad => rw [q] at h; exact h
/-- nothing is done, the rest goes on -/
theorem ss_frz {sts : List Stmt} {i : Nat} {cs : List CS} (h2 : PSs X sts (tMS X.K xc W (execs G cs))) : PSs X sts (tMS X.K xc W (execs G (.frz i :: cs))) :=
  PSs.weak h2 fun D σ H ⟨F0, μ0, H0, F, μ, S, ρ, s, h⟩ => by
    rw [execs, exec] at h
    cases q : ρ[i]? with
    | none => rw [q] at h; exact h.elim
    | some o => cases o with
      | none => rw [q] at h; exact h.elim
      | some b =>
        rw [q] at h
        obtain ⟨F', s', _⟩ := s.frz q
        exact ⟨F0, μ0, H0, F', μ, S, _, s', h⟩
theorem SR.mv (s : SR K F0 μ0 H0 F μ S H ρ σ) {i : Nat} {xs : List Zw.D} (hi : ρ[i]? = some (some (.own (.lst xs)))) : ∃ μ', SR K F0 μ0 H0 F μ' (S ++ [.lst xs]) H (ρ.set i (some (.r S.length))) σ := by
  obtain ⟨v, h1, a, vs, ds, e1, e2, ha, rs, n, m⟩ := s.er.val i _ hi
  cases e1
  cases e2
  have h0 := s.own i _ a hi h1
  have hl := s.rel.len
  refine ⟨μ ++ [a], ⟨s.rel.sub, by simp [hl], ?_, fun k b ys e1 e2 => ?_, fun b hb => ?_⟩, ⟨by rw [List.length_set]; exact s.er.len, fun j c e => ?_, fun j k d1 d2 a1 nn e1 e2 e3 => ?_⟩, s.ext, ?_, fun j d a1 e1 e2 => ?_⟩
  · refine List.nodup_append.mpr ⟨s.rel.nd, by simp, fun x hx y hy => ?_⟩
    rw [List.mem_singleton.mp hy]
    exact fun z => m (by rw [← z]; exact hx)
  · by_cases l : k < S.length
    · rw [List.getElem?_append_left (by omega)] at e1
      rw [List.getElem?_append_left l] at e2
      exact s.rel.obj k b ys e1 e2
    · have hk : k = S.length := by
        have := (List.getElem?_eq_some_iff.mp e2).1
        simp at this
        omega
      subst hk
      rw [← hl, List.getElem?_append_right (Nat.le_refl _), Nat.sub_self] at e1
      rw [List.getElem?_append_right (Nat.le_refl _), Nat.sub_self] at e2
      cases e1
      cases e2
      exact ⟨vs, ha, rs⟩
  · rcases List.mem_append.mp hb with hb | hb
    · exact s.rel.dis b hb
    · rw [List.mem_singleton.mp hb]; exact n
  · by_cases q : j = i
    · subst q
      rw [List.getElem?_set_self (List.getElem?_eq_some_iff.mp hi).1] at e
      cases e
      exact ⟨_, h1, a, rfl, by rw [← hl, List.getElem?_append_right (Nat.le_refl _), Nat.sub_self]; rfl⟩
    · rw [List.getElem?_set_ne (Ne.symm q)] at e
      obtain ⟨w, hw, bw⟩ := s.er.val j c e
      refine ⟨w, hw, ?_⟩
      have own' : ∀ (d : Zw.D), (ρ[j]? = some (some (B.own d)) ∨ ρ[j]? = some (some (B.bor d))) → OwnAt K F μ H w d → OwnAt K F (μ ++ [a]) H w d := fun d ej ⟨c, ys, es, e1, e2, hc, rc, nc, mc⟩ => by
        refine ⟨c, ys, es, e1, e2, hc, rc, nc, fun z => ?_⟩
        rcases List.mem_append.mp z with z | z
        · exact mc z
        · rw [List.mem_singleton.mp z] at e1
          subst e1
          exact s.er.sep i j _ d a (Ne.symm q) hi ej h1 hw
      cases c with
      | t d => exact bw
      | own d => exact own' d (.inl e) bw
      | bor d => exact own' d (.inr e) bw
      | sc d =>
        obtain ⟨c, ys, es, e1, e2, hc, rc⟩ := bw
        refine ⟨c, ys, es, e1, e2, hc.to fun o h mc => ⟨h, fun z => ?_⟩, rc⟩
        rcases List.mem_append.mp z with z | z
        · exact mc z
        · rw [List.mem_singleton.mp z, ha] at h
          cases h
      | r k =>
        obtain ⟨c, e1, e2⟩ := bw
        exact ⟨c, e1, by rw [List.getElem?_append_left (List.getElem?_eq_some_iff.mp e2).1]; exact e2⟩
  · have back : ∀ (j : Nat) (c : B), (ρ.set i (some (B.r S.length)))[j]? = some (some c) → (∀ k, c ≠ .r k) → ρ[j]? = some (some c) := fun j c e nr => by
      by_cases q : j = i
      · subst q
        rw [List.getElem?_set_self (List.getElem?_eq_some_iff.mp hi).1] at e
        cases e
        exact absurd rfl (nr _)
      · rw [List.getElem?_set_ne (Ne.symm q)] at e
        exact e
    refine s.er.sep j k d1 d2 a1 nn (back j _ e1 (fun _ z => by cases z)) ?_ e3
    rcases e2 with e2 | e2
    · exact .inl (back k _ e2 (fun _ z => by cases z))
    · exact .inr (back k _ e2 (fun _ z => by cases z))
  · obtain ⟨ν, e, hν⟩ := s.pre
    refine ⟨ν ++ [a], by rw [e, List.append_assoc], fun b hb => ?_⟩
    rcases List.mem_append.mp hb with hb | hb
    · exact hν b hb
    · rw [List.mem_singleton.mp hb]; exact h0
  · by_cases q : j = i
    · subst q
      rw [List.getElem?_set_self (List.getElem?_eq_some_iff.mp hi).1] at e1
      cases e1
    · rw [List.getElem?_set_ne (Ne.symm q)] at e1
      exact s.own j d a1 e1 e2
theorem ss_mv {sts : List Stmt} {i : Nat} {cs : List CS} (h2 : PSs X sts (tMS X.K xc W (execs G cs))) : PSs X sts (tMS X.K xc W (execs G (.mv i :: cs))) :=
  PSs.weak h2 fun D σ H ⟨F0, μ0, H0, F, μ, S, ρ, s, h⟩ => by
    rw [execs, exec] at h
    cases q : ρ[i]? with
    | none => rw [q] at h; exact h.elim
    | some o => cases o with
      | none => rw [q] at h; exact h.elim
      | some b => cases b with
        | own d => cases d with
          | lst xs =>
            rw [q] at h
            obtain ⟨μ', s'⟩ := s.mv q
            exact ⟨F0, μ0, H0, F, μ', _, _, s', h⟩
          | _ => rw [q] at h; exact h.elim
        | _ => rw [q] at h; exact h.elim
/-! ### loops -/
theorem Rel.cut (r : Rel K F μ S H) (n : Nat) : Rel K F (μ.take n) (S.take n) H := by
  refine ⟨r.sub, by rw [List.length_take, List.length_take, r.len], (List.take_sublist n μ).nodup r.nd, fun k a xs e1 e2 => ?_, fun a ha => r.dis a (List.mem_of_mem_take ha)⟩
  have l : k < n := by
    have := (List.getElem?_eq_some_iff.mp e1).1
    rw [List.length_take] at this
    omega
  rw [List.getElem?_take_of_lt l] at e1 e2
  exact r.obj k a xs e1 e2
theorem SR.cut (s : SR K F0 μ0 H0 F μ S H ρ σ) {n : Nat} (hn : μ0.length ≤ n) : SR K F0 μ0 H0 F (μ.take n) (S.take n) H (cutE n ρ) σ := by
  have gs : ∀ (j : Nat) (c : B), (cutE n ρ)[j]? = some (some c) → ρ[j]? = some (some c) ∧ B.below n c = some c := fun j c e => by
    unfold cutE at e
    rw [List.getElem?_map] at e
    cases q : ρ[j]? with
    | none => rw [q] at e; cases e
    | some o =>
      rw [q] at e
      cases o with
      | none => cases e
      | some b =>
        have e' : B.below n b = some c := by simpa using e
        have : b = c := by
          cases b with
          | r k =>
            have e2 : (if k < n then some (B.r k) else none) = some c := e'
            by_cases l : k < n
            · rw [if_pos l] at e2; cases e2; rfl
            · rw [if_neg l] at e2; cases e2
          | _ => cases e'; rfl
        subst this
        exact ⟨rfl, e'⟩
  refine ⟨s.rel.cut n, ⟨by simp [cutE, s.er.len], fun j c e => ?_, fun j k d1 d2 a1 nn e1 e2 e3 => ?_⟩, s.ext, ?_, fun j d a e1 e2 => s.own j d a (gs j _ e1).1 e2⟩
  · obtain ⟨e1, e2⟩ := gs j c e
    obtain ⟨w, hw, bw⟩ := s.er.val j c e1
    refine ⟨w, hw, ?_⟩
    cases c with
    | t d => exact bw
    | own d => obtain ⟨c, ys, es, e1, e2, hc, rc, nc, mc⟩ := bw; exact ⟨c, ys, es, e1, e2, hc, rc, nc, fun z => mc (List.mem_of_mem_take z)⟩
    | bor d => obtain ⟨c, ys, es, e1, e2, hc, rc, nc, mc⟩ := bw; exact ⟨c, ys, es, e1, e2, hc, rc, nc, fun z => mc (List.mem_of_mem_take z)⟩
    | sc d => obtain ⟨c, ys, es, e1, e2, hc, rc⟩ := bw; exact ⟨c, ys, es, e1, e2, hc.to fun o h mc => ⟨h, fun z => mc (List.mem_of_mem_take z)⟩, rc⟩
    | r k =>
      obtain ⟨c, e1, e3⟩ := bw
      have l : k < n := Decidable.byContradiction fun l => by
        have e2 : (if k < n then some (B.r k) else none) = some (B.r k) := e2
        rw [if_neg l] at e2; cases e2
      exact ⟨c, e1, by rw [List.getElem?_take_of_lt l]; exact e3⟩
  · refine s.er.sep j k d1 d2 a1 nn (gs j _ e1).1 ?_ e3
    rcases e2 with e2 | e2
    · exact .inl (gs k _ e2).1
    · exact .inr (gs k _ e2).1
  · obtain ⟨ν, e, hν⟩ := s.pre
    refine ⟨ν.take (n - μ0.length), ?_, fun a ha => hν a (List.mem_of_mem_take ha)⟩
    rw [e, List.take_append, List.take_of_length_le hn]
theorem SR.base (s : SR K F0 μ0 H0 F μ S H ρ σ) : SR K F μ0 H0 F μ S H ρ σ := ⟨s.rel, s.er, ⟨fun _ _ h => h, fun _ _ => rfl, s.ext.keep, s.ext.live⟩, s.pre, s.own⟩
theorem Ext.unbase (x : Ext μ0 F0 H0 F H) {F' H' : Hp} (y : Ext μ0 F H0 F' H') : Ext μ0 F0 H0 F' H' := ⟨fun a o h => y.fs a o (x.fs a o h), fun a h => (y.fn a h).trans (x.fn a h), y.keep, y.live⟩
theorem SR.unbase (x : Ext μ0 F0 H0 F H) {F' H' : Hp} {μ' : List Addr} {S' : Store} {ρ' : Env} {σ' : L2.St} (s : SR K F μ0 H0 F' μ' S' H' ρ' σ') : SR K F0 μ0 H0 F' μ' S' H' ρ' σ' := ⟨s.rel, s.er, x.unbase s.ext, s.pre, s.own⟩
theorem okSt_base (x : Ext μ0 F0 H0 F H) {r : RS} (h : okSt K xc F0 μ0 H0 W D r) : okSt K xc F μ0 H0 W D r := by
  cases r with
  | nx ρ' S' => exact fun F' μ' H' σ' s => h F' μ' H' σ' (s.unbase x)
  | bk ρ' S' => exact fun F' μ' H' σ' s => h F' μ' H' σ' (s.unbase x)
  | ct ρ' S' => exact fun F' μ' H' σ' s => h F' μ' H' σ' (s.unbase x)
  | rt b S' => exact fun F' μ' H' v r e p bv fr hb => h F' μ' H' v r (x.unbase e) p bv fr hb
  | ex c p ρ' S' => exact fun F' μ' H' σ' cls d s xr => h F' μ' H' σ' cls d (s.unbase x) xr
  | bad => exact h
theorem frzs_seens : ∀ {bs : List B} {ds : List Zw.D}, frzs bs = some ds → seens bs = some ds
  | [], _, h => h
  | b :: r, ds, h => by
    unfold frzs at h
    cases q : b.frz with
    | none => rw [q] at h; cases h
    | some d =>
      rw [q] at h
      cases q2 : frzs r with
      | none => rw [q2] at h; cases h
      | some ds' =>
        rw [q2] at h
        cases h
        have e : b.seen = some d := by
          cases b with
          | t _ => exact q
          | own _ => exact q
          | _ => cases q
        show (b.seen.bind fun d => (seens r).map (d :: ·)) = _
        rw [e, frzs_seens q2]
        rfl
theorem s_for {tg iter : Expr} {body : List Stmt} {pos : Pos} {cs : Bool} {kind : Nat} {its : List CE} {t : Tg} {cb : List CS} (hp : PassesOwn (model X.prog X.w) X.A X.env X.xe) (hc : X.calm = true) (hi : PI X tg iter (tMI X.K xc W (wkM G kind its))) (hg : PG X tg (gOf X.K t))
    (hb : PSs X body (tMS X.K xc W (execs G cb))) (hs : ∀ x, foldedSetIterable iter X.env x = pure x) : PS X (.For tg iter body [] pos) (tMS X.K xc W (exec G (.for_ cs kind its t cb))) :=
  PS.weak (ps_for hp hc hi hg hb hs) fun D σ H ⟨F0, μ0, H0, F, μ, S, ρ, s, h⟩ => by
    rw [exec] at h
    refine ⟨F, μ, S, ρ, s.rel, s.er, ?_⟩
    cases q : evl G its ρ S with
    | bad => rw [q] at h; exact h.elim
    | ex c p S1 =>
      rw [q] at h
      rw [show wkM G kind its ρ S = .ex c p S1 by unfold wkM; rw [q]; rfl]
      exact fun F1 H1 cls d e r1 x => h F1 μ H1 σ cls d (s.step e r1) x
    | ok bs S1 =>
      rw [q] at h
      have h : okSt X.K xc F0 μ0 H0 W D (match (frzs bs).bind (walk kind) with
        | none => .bad
        | some xs => forL cs S1.length (fun x ρ s => match bindT t x ρ with
            | none => .bad
            | some ρ => execs G cb ρ s) xs ρ S1) := h
      cases q2 : (frzs bs).bind (walk kind) with
      | none => rw [q2] at h; exact h.elim
      | some xs =>
      rw [q2] at h
      obtain ⟨ds, q3, q4⟩ := Option.bind_eq_some_iff.mp q2
      rw [show wkM G kind its ρ S = .ok (bs, xs) S1 by unfold wkM; rw [q]; simp [R.bind, seenW, frzs_seens q3, q4, R.of]]
      intro F1 H1 J e1 r1 wk
      have s1 := s.step e1 r1
      have wk := wk.2 (by show (frzs bs).isSome = true; rw [q3]; rfl)
      have h := okSt_base s1.ext h
      have hn : μ0.length ≤ S1.length := by
        obtain ⟨ν, e, _⟩ := s.pre
        rw [← r1.len, e]
        simp
      generalize hf : (fun (x : Zw.D) (ρ : Env) (s : Store) => match bindT t x ρ with
            | none => RS.bad
            | some ρ => execs G cb ρ s) = f at h
      refine ⟨fun i m σ' H' => m = xs.length - i ∧ i ≤ xs.length ∧ ∃ F' μ' S' ρ', SR X.K F1 μ0 H0 F' μ' S' H' ρ' σ' ∧ okSt X.K xc F1 μ0 H0 W D (forL cs S1.length f (xs.drop i) ρ' S'),
        ⟨_, rfl, Nat.zero_le _, F1, μ, S1, ρ, s1.base, h⟩, ?_⟩
      rintro i m σ2 H2 ⟨rfl, hi, F2, μ2, S2, ρ2, s2, h2⟩
      by_cases hlt : i < xs.length
      · refine .inr ⟨wk.go i F2 H2 ⟨s2.ext.fs, s2.rel.sub⟩ hlt, fun σ' H' => ∃ F' μ' S' ρ', SR X.K F1 μ0 H0 F' μ' S' H' ρ' σ' ∧ okSt X.K xc F1 μ0 H0 W D (forL cs S1.length f (xs.drop (i + 1)) ρ' S'),
          fun σ' H' p => ⟨xs.length - (i + 1), by omega, rfl, hlt, p⟩, fun x H' y => ?_⟩
        obtain ⟨eH, d, hd, rx⟩ := wk.yld i F2 H2 x H' ⟨s2.ext.fs, s2.rel.sub⟩ y hlt
        subst eH
        have ed : xs.drop i = d :: xs.drop (i + 1) := by
          rw [List.drop_eq_getElem_cons hlt]
          rw [List.getElem?_eq_getElem hlt] at hd
          cases hd
          rfl
        rw [ed, forL] at h2
        cases qb : bindT t d ρ2 with
        | none =>
          rw [show f d ρ2 S2 = .bad by rw [← hf]; simp only [qb]] at h2
          exact h2.elim
        | some ρ' =>
        rw [show f d ρ2 S2 = execs G cb ρ' S2 by rw [← hf]; simp only [qb]] at h2
        refine s2.bind qb rx fun σ' s' => ⟨F1, μ0, H0, F2, μ2, S2, ρ', s', ?_⟩
        have cutOk : ∀ (ρ3 : Env) (S3 : Store), okSt X.K xc F1 μ0 H0 W D (cutAt cs S1.length (forL cs S1.length f (xs.drop (i + 1))) ρ3 S3) → ∀ F3 μ3 H3 σ3, SR X.K F1 μ0 H0 F3 μ3 S3 H3 ρ3 σ3 →
            ∃ F' μ' S' ρ', SR X.K F1 μ0 H0 F' μ' S' H3 ρ' σ3 ∧ okSt X.K xc F1 μ0 H0 W D (forL cs S1.length f (xs.drop (i + 1)) ρ' S') := fun ρ3 S3 h3 F3 μ3 H3 σ3 s3 => by
          unfold cutAt at h3
          cases hcs : cs with
          | true =>
            rw [hcs] at h3
            exact ⟨F3, _, _, _, s3.cut hn, h3⟩
          | false =>
            rw [hcs] at h3
            exact ⟨F3, _, _, _, s3, h3⟩
        cases qe : execs G cb ρ' S2 with
        | nx ρ3 S3 => rw [qe] at h2; exact fun F3 μ3 H3 σ3 s3 => cutOk ρ3 S3 h2 F3 μ3 H3 σ3 s3
        | ct ρ3 S3 => rw [qe] at h2; exact fun F3 μ3 H3 σ3 s3 => cutOk ρ3 S3 h2 F3 μ3 H3 σ3 s3
        | bk ρ3 S3 => rw [qe] at h2; exact h2
        | rt b S3 => rw [qe] at h2; exact h2
        | ex c p ρ3 S3 => rw [qe] at h2; exact h2
        | bad => rw [qe] at h2; exact h2.elim
      · have e : i = xs.length := by omega
        subst e
        rw [List.drop_length, forL] at h2
        exact .inl ⟨wk.stop F2 H2 ⟨s2.ext.fs, s2.rel.sub⟩, h2 F2 μ2 H2 σ2 s2⟩
theorem s_while {c : Expr} {body : List Stmt} {pos : Pos} {cc : CE} {cb : List CS} (hp : PassesOwn (model X.prog X.w) X.A X.env X.xe) (hc : PT X c (tMT X.K xc W (evT G cc))) (hb : PSs X body (tMS X.K xc W (execs G cb))) :
    PS X (.While c body [] pos) (tMS X.K xc W (exec G (.while_ cc cb))) :=
  PS.weak (ps_while hp hc hb) fun D σ H ⟨F0, μ0, H0, F, μ, S, ρ, s, h⟩ => by
    rw [exec] at h
    refine ⟨fun m σ' H' => ∃ F' μ' S' ρ', SR X.K F0 μ0 H0 F' μ' S' H' ρ' σ' ∧ okSt X.K xc F0 μ0 H0 W D (whileL (evT G cc) (execs G cb) m ρ' S'), ⟨steps, F, μ, S, ρ, s, h⟩, ?_⟩
    rintro m σ1 H1 ⟨F1, μ1, S1, ρ1, s1, h1⟩
    cases m with
    | zero => rw [whileL] at h1; exact h1.elim
    | succ m =>
      rw [whileL] at h1
      refine ⟨F1, μ1, S1, ρ1, s1.rel, s1.er, toT s1 h1 fun F2 H2 k S2 s2 h2 => ?_⟩
      cases k with
      | false => exact h2 F2 μ1 H2 σ1 s2
      | true =>
        rw [if_pos rfl] at h2 ⊢
        refine ⟨fun σ' H' => ∃ F' μ' S' ρ', SR X.K F0 μ0 H0 F' μ' S' H' ρ' σ' ∧ okSt X.K xc F0 μ0 H0 W D (whileL (evT G cc) (execs G cb) m ρ' S'), fun σ' H' p => ⟨m, Nat.lt_succ_self m, p⟩, F0, μ0, H0, F2, μ1, S2, ρ1, s2, ?_⟩
        cases qe : execs G cb ρ1 S2 with
        | nx ρ3 S3 => rw [qe] at h2; exact fun F3 μ3 H3 σ3 s3 => ⟨F3, μ3, S3, ρ3, s3, h2⟩
        | ct ρ3 S3 => rw [qe] at h2; exact fun F3 μ3 H3 σ3 s3 => ⟨F3, μ3, S3, ρ3, s3, h2⟩
        | bk ρ3 S3 => rw [qe] at h2; exact h2
        | rt b S3 => rw [qe] at h2; exact h2
        | ex c p ρ3 S3 => rw [qe] at h2; exact h2
        | bad => rw [qe] at h2; exact h2.elim
end
end Zw
set_option Elab.async false
set_option linter.all false
set_option maxRecDepth 100000
/-! Zw9: statements, third part: several names at once, augmented stores, changes of lists. -/
namespace Zw
open PySem PySem.Spec PyProof.Rows L2
section
variable {X : Cx} {K : PySem.W.Frag} {xc : Nat → Option XCls} {W : WX} {F0 F H0 H F1 H1 : Hp} {μ0 μ : List Addr} {S S1 : Store} {σ : L2.St} {ρ : Env} {G : Gx} {D : Ends}
/-! ### a, b = x, y -/
def FrL : Hp → List V → List B → Prop
  | _, [], [] => True
  | H, v :: vs, b :: bs => Fresh H v b ∧ ∃ H1 : Hp, (∀ a, H a ≠ none → H1 a ≠ none) ∧ (∀ (d : Zw.D) (a : Addr), b = .own d → v = .ref a → H1 a ≠ none) ∧ FrL H1 vs bs
  | _, _, _ => False
def okG (K : PySem.W.Frag) (xc : Nat → Option XCls) (μ : List Addr) (W : WX) (F H : Hp) (σ : L2.St) (r : R (List B)) (Q : List V → Hp → Prop) : Prop := match r with
  | .ok bs S' => ∀ F' H' vs, Ext μ F H F' H' → Rel K F' μ S' H' → BRs K F' μ H' vs bs → FrL H vs bs → Q vs H'
  | .ex c p S' => ∀ F' H' cls d, Ext μ F H F' H' → Rel K F' μ S' H' → XR K xc F' H' c p cls d → W cls d σ H'
  | .bad => False
def tMG (K : PySem.W.Frag) (xc : Nat → Option XCls) (W : WX) (m : Env → Store → R (List B)) : TA := fun σ H Q =>
  ∃ F μ S ρ, Rel K F μ S H ∧ ER K F μ H ρ σ ∧ okG K xc μ W F H σ (m ρ S) Q
theorem g_nil : PA X [] (tMG X.K xc W (evg G [])) := PA.weak pa_nil fun σ H Q ⟨F, μ, S, ρ, rel, er, h⟩ => h F H [] (Ext.refl _ _ _) rel .nil trivial
theorem g_cons {e : Expr} {es : List Expr} {c : CE} {cs : List CE} (he : PE X e (tM X.K xc W (ev G c))) (hes : PA X es (tMG X.K xc W (evg G cs))) (hs : notStar e = true) : PA X (e :: es) (tMG X.K xc W (evg G (c :: cs))) := by
  refine PA.weak (pa_cons he hes (starEach_plain hs)) fun σ H Q ⟨F, μ, S, ρ, rel, er, h⟩ => ⟨F, μ, S, ρ, rel, er, ?_⟩
  rw [show evg G (c :: cs) ρ S = (ev G c ρ S).bind fun x s => (evg G cs ρ s).bind fun xs s => .ok (x :: xs) s from rfl] at h
  cases q : ev G c ρ S with
  | bad => rw [q] at h; exact h.elim
  | ex c p S1 => rw [q] at h; exact h
  | ok b S1 =>
    rw [q] at h
    intro F1 H1 v e1 r1 bv fr
    refine ⟨F1, μ, S1, ρ, r1, er.step e1, ?_⟩
    have h : okG X.K xc μ W F H σ ((evg G cs ρ S1).bind fun xs s => .ok (b :: xs) s) Q := h
    cases q2 : evg G cs ρ S1 with
    | bad => rw [q2] at h; exact h.elim
    | ex c p S2 => rw [q2] at h; exact fun F2 H2 cls d e2 r2 x => h F2 H2 cls d (e1.trans e2) r2 x
    | ok bs S2 =>
      rw [q2] at h
      intro F2 H2 vs e2 r2 bvs frs
      refine h F2 H2 (v :: vs) (e1.trans e2) r2 (.cons (bv.step e2) bvs) ⟨fr, H1, e1.live, fun d a eb ea => ?_, frs⟩
      subst eb
      obtain ⟨c, xs, ds, ev, _, hc, _⟩ := bv
      rw [ea] at ev
      cases ev
      rw [hc]
      intro z
      cases z
theorem toG {r : R (List B)} {g : List B → Store → RS} {Q : List V → Hp → Prop} (s : SR K F0 μ0 H0 F μ S H ρ σ) (h : okSt K xc F0 μ0 H0 W D (r.to ρ g))
    (k : ∀ F1 H1 vs bs S1, SR K F0 μ0 H0 F1 μ S1 H1 ρ σ → BRs K F1 μ H1 vs bs → FrL H vs bs → okSt K xc F0 μ0 H0 W D (g bs S1) → Q vs H1) : okG K xc μ W F H σ r Q := by
  cases r with
  | ok b S1 => exact fun F1 H1 v e r1 bv fr => k F1 H1 v b S1 (s.step e r1) bv fr h
  | ex c p S1 => exact fun F1 H1 cls d e r1 x => h F1 μ H1 σ cls d (s.step e r1) x
  | bad => exact h
def setV : List Nat → List V → L2.St → L2.St
  | i :: is, v :: vs, σ => setV is vs (σ.set i (some v))
  | _, _, σ => σ
theorem gives_some : ∀ {bs bs' : List B}, gives bs = some bs' → bs' = bs ∧ ∀ b ∈ bs, b.give = some b
  | [], _, h => by cases h; exact ⟨rfl, fun _ z => by simp at z⟩
  | b :: r, bs', h => by
    unfold gives at h
    cases q : b.give with
    | none => rw [q] at h; cases h
    | some c =>
      rw [q] at h
      cases q2 : gives r with
      | none => rw [q2] at h; cases h
      | some r' =>
        rw [q2] at h
        cases h
        obtain ⟨rfl, hb⟩ := give_eq q
        obtain ⟨rfl, hr⟩ := gives_some q2
        exact ⟨rfl, fun b hb' => (List.mem_cons.mp hb').elim (fun e => by rw [e]; exact hb) (hr b)⟩
theorem setAll_ok : ∀ {is : List Nat} {bs : List B} {vs : List V} {ρ : Env} {σ : L2.St} {Hm : Hp}, SR K F0 μ0 H0 F μ S H ρ σ → BRs K F μ H vs bs → FrL Hm vs bs → (∀ b ∈ bs, b.give = some b) → (∀ a, H0 a ≠ none → Hm a ≠ none) →
    (∀ (j : Nat) (d : Zw.D) (a : Addr), (ρ[j]? = some (some (B.own d)) ∨ ρ[j]? = some (some (B.bor d))) → σ[j]? = some (some (V.ref a)) → Hm a ≠ none) → SR K F0 μ0 H0 F μ S H (setAll is bs ρ) (setV is vs σ)
  | [], _, _, _, _, _, s, _, _, _, _, _ => by unfold setAll setV; exact s
  | i :: is, [], _, _, _, _, s, .nil, _, _, _, _ => by unfold setAll setV; exact s
  | i :: is, b :: bs, v :: vs, ρ, σ, Hm, s, .cons bv bvs, fr, hb, h0, hl => by
    obtain ⟨fr1, H1, l1, l2, fr2⟩ := fr
    have hb1 := hb b List.mem_cons_self
    have fresh : ∀ (d : Zw.D) (a : Addr), b = .own d → v = .ref a → H0 a = none ∧ ∀ (j : Nat) (d' : Zw.D), (ρ[j]? = some (some (B.own d')) ∨ ρ[j]? = some (some (B.bor d'))) → σ[j]? ≠ some (some (V.ref a)) := fun d a e1 e2 => by
      subst e1
      have hn : Hm a = none := fr1 a e2
      refine ⟨?_, fun j d' e3 e4 => hl j d' a e3 e4 hn⟩
      cases q : H0 a with
      | none => rfl
      | some o => exact absurd hn (h0 a (by rw [q]; intro z; cases z))
    have s1 := s.setB (i := i) bv hb1 fresh
    refine setAll_ok (is := is) s1 bvs fr2 (fun b hb' => hb b (List.mem_cons_of_mem _ hb')) (fun a ha => l1 a (h0 a ha)) fun j d a e1 e2 => ?_
    by_cases q : j = i
    · subst q
      by_cases l : j < ρ.length
      · rw [List.getElem?_set_self l] at e1
        rw [List.getElem?_set_self (by rw [← s.er.len]; exact l)] at e2
        cases e2
        rcases e1 with e1 | e1
        · cases e1
          exact l2 d a rfl rfl
        · cases e1
          cases hb1
      · rw [List.getElem?_eq_none (by simpa using l)] at e1
        rcases e1 with e1 | e1 <;> cases e1
    · rw [List.getElem?_set_ne (Ne.symm q)] at e1 e2
      exact l1 a (hl j d a e1 e2)
theorem par_rd {is : List Nat} {cs : List CE} {Q : List V → Hp → Prop} (h : tMS K xc W (exec G (.par is cs)) D σ H) (k : ∀ vs H1, vs.length = is.length → D.nx (setV is vs σ) H1 → Q vs H1) : tMG K xc W (evg G cs) σ H Q := by
  obtain ⟨F0, μ0, H0, F, μ, S, ρ, s, h⟩ := h
  rw [exec] at h
  refine ⟨F, μ, S, ρ, s.rel, s.er, toG s h fun F1 H1 vs bs S1 s1 bvs fr h1 => ?_⟩
  cases q : gives bs with
  | none => rw [q] at h1; exact h1.elim
  | some bs' =>
    rw [q] at h1
    obtain ⟨rfl, hb⟩ := gives_some q
    have h1 : okSt K xc F0 μ0 H0 W D (if bs'.length = is.length then .nx (setAll is bs' ρ) S1 else .bad) := h1
    by_cases l : bs'.length = is.length
    · rw [if_pos l] at h1
      exact k vs H1 (bvs.length.trans l) (h1 F1 μ H1 _ (setAll_ok s1 bvs fr hb s.ext.live fun j d a e1 e2 => s.er.live e1 e2))
    · rw [if_neg l] at h1; exact h1.elim
theorem s_par2 {i j : Nat} {x y : Str} {a b : Expr} {ca cb : CE} {px py pt pos : Pos} {kt k2 pt2} (hc : X.calm = true) (hN : X.N.Nodup) (hi : X.N[i]? = some x) (hj : X.N[j]? = some y) (hij : i ≠ j)
    (hx : X.env.scope.names.lookup x = some .local) (hy : X.env.scope.names.lookup y = some .local) (ha : PA X [a, b] (tMG X.K xc W (evg G [ca, cb])))
    (hw : swappedStores [.Tuple [.Name x px, .Name y py] kt pt] (.Tuple [a, b] k2 pt2) X.env = pure (some [x, y]))
    (hs : swapsWithSole [.Tuple [.Name x px, .Name y py] kt pt] (.Tuple [a, b] k2 pt2) pos.line X.env = pure false) :
    PS X (.Assign [.Tuple [.Name x px, .Name y py] kt pt] (.Tuple [a, b] k2 pt2) pos) (tMS X.K xc W (exec G (.par [i, j] [ca, cb]))) :=
  PS.weak (ps_par hc hN hi hj hij hx hy ha hw hs) fun D σ H h => par_rd h fun vs H1 l hn => by
    match vs, l with
    | [v, w], _ => exact ⟨v, w, rfl, hn⟩
theorem s_par3 {i j l : Nat} {x y z : Str} {a b c : Expr} {ca cb cc : CE} {px py pz pt pos : Pos} {kt k2 pt2} (hc : X.calm = true) (hN : X.N.Nodup) (hi : X.N[i]? = some x) (hj : X.N[j]? = some y) (hl : X.N[l]? = some z) (hij : i ≠ j) (hil : i ≠ l) (hjl : j ≠ l)
    (hx : X.env.scope.names.lookup x = some .local) (hy : X.env.scope.names.lookup y = some .local) (hz : X.env.scope.names.lookup z = some .local) (ha : PA X [a, b, c] (tMG X.K xc W (evg G [ca, cb, cc])))
    (hw : swappedStores [.Tuple [.Name x px, .Name y py, .Name z pz] kt pt] (.Tuple [a, b, c] k2 pt2) X.env = pure (some [x, y, z]))
    (hs : swapsWithSole [.Tuple [.Name x px, .Name y py, .Name z pz] kt pt] (.Tuple [a, b, c] k2 pt2) pos.line X.env = pure false) :
    PS X (.Assign [.Tuple [.Name x px, .Name y py, .Name z pz] kt pt] (.Tuple [a, b, c] k2 pt2) pos) (tMS X.K xc W (exec G (.par [i, j, l] [ca, cb, cc]))) :=
  PS.weak (ps_par3 hc hN hi hj hl hij hil hjl hx hy hz ha hw hs) fun D σ H h => par_rd h fun vs H1 l hn => by
    match vs, l with
    | [u, v, w], _ => exact ⟨u, v, w, rfl, hn⟩
/-! ### x op= e -/
def augOk : Op2 → Bool
  | .add => true
  | .sub => true
  | _ => false
theorem s_aug {i : Nat} {x : Str} {e : Expr} {c : CE} {op : Op2} {pos pos' : Pos} (hop : augOk op = true) (hN : X.N.Nodup) (hi : X.N[i]? = some x) (hx : Loc X.env.scope x) (he : PE X e (tM X.K xc W (ev G c))) (hf : X.fn x = true ∨ X.env.scope.names.lookup x = some .local) :
    PS X (.AugAssign (.Name x pos') (opOf op) e pos) (tMS X.K xc W (exec G (.aug i op c))) := by
  have main : ∀ (f : Int → Int → Int) (g : Int → Int → Zw.D), PIp X (opOf op) (ipI f) → (∀ a b z, op2 op a b = some (.t (.int z)) → ∃ m n, a = .int m ∧ b = .int n ∧ z = f m n) → PS X (.AugAssign (.Name x pos') (opOf op) e pos) (tMS X.K xc W (exec G (.aug i op c))) := by
    intro f _ hp ho
    refine PS.weak (ps_aug hN hi hx he hp hf) fun D σ H ⟨F0, μ0, H0, F, μ, S, ρ, s, h⟩ => ?_
    rw [exec] at h
    cases q : ρ[i]? with
    | none => rw [q] at h; exact h.elim
    | some o => cases o with
      | none => rw [q] at h; exact h.elim
      | some b => cases b with
        | t d =>
          rw [q] at h
          obtain ⟨v, h1, h2⟩ := s.er.val i _ q
          refine ⟨v, h1, F, μ, S, ρ, s.rel, s.er, toE (g := fun y s => match (y.peek s).bind (op2 op d) with
            | some (.t (.int z)) => .nx (ρ.set i (some (.t (.int z)))) s
            | _ => .bad) s h fun F1 H1 y bY S1 e1 s1 bv fr h3 => ?_⟩
          cases q2 : (bY.peek S1).bind (op2 op d) with
          | none => simp only [q2] at h3; exact h3.elim
          | some z =>
            cases z with
            | t z => cases z with
              | int z =>
                simp only [q2] at h3
                obtain ⟨d2, p2, p3⟩ := Option.bind_eq_some_iff.mp q2
                obtain ⟨m, n, rfl, rfl, rfl⟩ := ho _ _ _ p3
                refine ⟨m, n, rp_int h2, lk_int s1.rel bv (look_of_peek p2), ?_⟩
                exact h3 F1 μ H1 _ (s1.setB (b := .t (.int _)) (.int _) rfl fun _ _ z => by cases z)
              | _ => simp only [q2] at h3; exact h3.elim
            | _ => simp only [q2] at h3; exact h3.elim
        | _ => rw [q] at h; exact h.elim
  cases op with
  | add =>
    refine main (fun a b => a + b) (fun a b => .int 0) ip_add fun a b z h => ?_
    have h : opAdd a b = some (.t (.int z)) := h
    unfold opAdd at h
    split at h
    · cases h; exact ⟨_, _, rfl, rfl, rfl⟩
    · split at h <;> cases h
    · split at h <;> cases h
    · split at h <;> cases h
    · cases h
  | sub =>
    refine main (fun a b => a - b) (fun a b => .int 0) ip_sub fun a b z h => ?_
    have h : opSub a b = some (.t (.int z)) := h
    unfold opSub at h
    split at h
    · cases h; exact ⟨_, _, rfl, rfl, rfl⟩
    · cases h
  | _ => cases hop
/-! ### changes of lists -/
theorem SR.updOwn (s : SR K F0 μ0 H0 F μ S H ρ σ) {i : Nat} {a : Addr} {xs ys : List Zw.D} {vs : List V} (hi : ρ[i]? = some (some (.own (.lst xs)))) (h1 : σ[i]? = some (some (V.ref a))) (r : RpL K F vs ys) :
    SR K F0 μ0 H0 F μ S (upd H a (.lst vs)) (ρ.set i (some (.own (.lst ys)))) σ := by
  obtain ⟨v, h1', c, vs0, ds, e1, e2, ha, rs, n, m⟩ := s.er.val i _ hi
  rw [h1] at h1'
  cases h1'
  cases e1
  cases e2
  have h0 := s.own i _ a hi h1
  have gs : ∀ (j : Nat) (c : B), (ρ.set i (some (B.own (.lst ys))))[j]? = some (some c) → (j = i ∧ c = .own (.lst ys)) ∨ (j ≠ i ∧ ρ[j]? = some (some c)) := fun j c e => by
    by_cases q : j = i
    · subst q
      rw [List.getElem?_set_self (List.getElem?_eq_some_iff.mp hi).1] at e
      cases e
      exact .inl ⟨rfl, rfl⟩
    · rw [List.getElem?_set_ne (Ne.symm q)] at e
      exact .inr ⟨q, e⟩
  refine ⟨s.rel.put n m, ⟨by rw [List.length_set]; exact s.er.len, fun j c e => ?_, fun j k d1 d2 a1 nn e1 e2 e3 => ?_⟩, s.ext.put h0, s.pre, fun j d a1 e1 e2 => ?_⟩
  · rcases gs j c e with ⟨q, e2⟩ | ⟨q, e2⟩
    · subst q e2
      exact ⟨_, h1, a, vs, ys, rfl, rfl, upd_same, r, n, m⟩
    · obtain ⟨w, hw, bw⟩ := s.er.val j c e2
      refine ⟨w, hw, ?_⟩
      have own' : ∀ (d : Zw.D), (ρ[j]? = some (some (B.own d)) ∨ ρ[j]? = some (some (B.bor d))) → OwnAt K F μ H w d → OwnAt K F μ (upd H a (.lst vs)) w d := fun d ej ⟨c, zs, es, e1, e2, hc, rc, nc, mc⟩ => by
        have qa : c ≠ a := fun z => by
          subst e1 z
          exact s.er.sep i j _ d c (Ne.symm q) hi ej h1 hw
        exact ⟨c, zs, es, e1, e2, by rw [upd_ne qa]; exact hc, rc, nc, mc⟩
      cases c with
      | t d => exact bw
      | own d => exact own' d (.inl e2) bw
      | bor d => exact own' d (.inr e2) bw
      | sc d =>
        obtain ⟨c, zs, es, e1, e2, hc, rc⟩ := bw
        refine ⟨c, zs, es, e1, e2, hc.to fun o h mc => ⟨?_, mc⟩, rc⟩
        have qa : c ≠ a := fun z => by rw [z, ha] at h; cases h
        rw [upd_ne qa]; exact h
      | r k => exact bw
  · have old : ∀ (j : Nat) (d : Zw.D), (ρ.set i (some (B.own (.lst ys))))[j]? = some (some (.own d)) → ∃ d', ρ[j]? = some (some (B.own d')) := fun j d e => by
      rcases gs j _ e with ⟨q, _⟩ | ⟨_, e⟩
      · exact ⟨_, by rw [q]; exact hi⟩
      · exact ⟨d, e⟩
    obtain ⟨d1', e1⟩ := old j d1 e1
    rcases e2 with e2 | e2
    · obtain ⟨d2', e2⟩ := old k d2 e2
      exact s.er.sep j k d1' d2' a1 nn e1 (.inl e2) e3
    · rcases gs k _ e2 with ⟨_, z⟩ | ⟨_, e2⟩
      · cases z
      · exact s.er.sep j k d1' d2 a1 nn e1 (.inr e2) e3
  · rcases gs j _ e1 with ⟨q, _⟩ | ⟨_, e1⟩
    · rw [q, h1] at e2; cases e2; exact h0
    · exact s.own j d a1 e1 e2
theorem SR.updRef (s : SR K F0 μ0 H0 F μ S H ρ σ) {k : Nat} {a : Addr} {ys : List Zw.D} {vs : List V} (hk : μ[k]? = some a) (r : RpL K F vs ys) : SR K F0 μ0 H0 F μ (S.set k (.lst ys)) (upd H a (.lst vs)) ρ σ := by
  have ha : a ∈ μ := List.mem_of_getElem? hk
  have lk : k < S.length := by rw [← s.rel.len]; exact (List.getElem?_eq_some_iff.mp hk).1
  have hlv : H a ≠ none := s.rel.live ha
  refine ⟨⟨fun b o e => ?_, by rw [List.length_set]; exact s.rel.len, s.rel.nd, fun j b zs e1 e2 => ?_, s.rel.dis⟩, ⟨s.er.len, fun j c e => ?_, s.er.sep⟩, ⟨s.ext.fs, s.ext.fn, fun b o e n m => ?_, fun b e => ?_⟩, s.pre, s.own⟩
  · have q : b ≠ a := fun z => by rw [z, s.rel.dis a ha] at e; cases e
    rw [upd_ne q]; exact s.rel.sub b o e
  · by_cases q : j = k
    · subst q
      rw [hk] at e1
      cases e1
      rw [List.getElem?_set_self lk] at e2
      cases e2
      exact ⟨vs, upd_same, r⟩
    · rw [List.getElem?_set_ne (Ne.symm q)] at e2
      obtain ⟨ws, h1, h2⟩ := s.rel.obj j b zs e1 e2
      have qa : b ≠ a := fun z => by
        subst z
        obtain ⟨l1, q1⟩ := List.getElem?_eq_some_iff.mp e1
        obtain ⟨l2, q2⟩ := List.getElem?_eq_some_iff.mp hk
        exact q ((List.getElem_inj s.rel.nd).mp (q1.trans q2.symm))
      exact ⟨ws, by rw [upd_ne qa]; exact h1, h2⟩
  · obtain ⟨w, hw, bw⟩ := s.er.val j c e
    refine ⟨w, hw, ?_⟩
    have own' : ∀ (d : Zw.D), OwnAt K F μ H w d → OwnAt K F μ (upd H a (.lst vs)) w d := fun d ⟨c, zs, es, e1, e2, hc, rc, nc, mc⟩ =>
      ⟨c, zs, es, e1, e2, by rw [upd_ne (fun z => mc (by rw [z]; exact ha))]; exact hc, rc, nc, mc⟩
    cases c with
    | t d => exact bw
    | own d => exact own' d bw
    | bor d => exact own' d bw
    | sc d =>
      obtain ⟨c, zs, es, e1, e2, hc, rc⟩ := bw
      exact ⟨c, zs, es, e1, e2, hc.to fun o h mc => ⟨by rw [upd_ne (fun z => mc (by rw [z]; exact ha))]; exact h, mc⟩, rc⟩
    | r k => exact bw
  · by_cases q : b = a
    · subst q
      obtain ⟨ν, e1, hν⟩ := s.pre
      rw [e1] at ha
      rcases List.mem_append.mp ha with ha | ha
      · exact absurd ha m
      · rw [hν b ha] at e; cases e
    · rw [upd_ne q]; exact s.ext.keep b o e n m
  · by_cases q : b = a
    · rw [q, upd_same]; intro z; cases z
    · rw [upd_ne q]; exact s.ext.live b e
theorem lst_ok {i : Nat} {xs : List Zw.D} (s : SR K F0 μ0 H0 F μ S H ρ σ) (h : lstAt i ρ S = some xs) : ∃ a vs, σ[i]? = some (some (V.ref a)) ∧ H a = some (.lst vs) ∧ RpL K F vs xs ∧
    ∀ ys vs', RpL K F vs' ys → okSt K xc F0 μ0 H0 W D (lstPut i ys ρ S) → D.nx σ (upd H a (.lst vs')) := by
  unfold lstAt at h
  cases q : ρ[i]? with
  | none => rw [q] at h; cases h
  | some o => cases o with
    | none => rw [q] at h; cases h
    | some b => cases b with
      | own d => cases d with
        | lst ds =>
          rw [q] at h
          cases h
          obtain ⟨v, h1, a, vs, ds, e1, e2, ha, rs, n, m⟩ := s.er.val i _ q
          cases e1
          cases e2
          refine ⟨a, vs, h1, ha, rs, fun ys vs' r h => ?_⟩
          unfold lstPut at h
          rw [q] at h
          exact h F μ _ σ (s.updOwn q h1 r)
        | _ => rw [q] at h; cases h
      | r k =>
        rw [q] at h
        obtain ⟨v, h1, a, e1, hk⟩ := s.er.val i _ q
        subst e1
        have h : (match S[k]? with | some (.lst xs) => some xs | none => none) = some xs := h
        cases q2 : S[k]? with
        | none => rw [q2] at h; cases h
        | some o => cases o with
          | lst zs =>
            rw [q2] at h
            cases h
            obtain ⟨vs, h2, h3⟩ := s.rel.obj k a _ hk q2
            refine ⟨a, vs, h1, h2, h3, fun ys vs' r h => ?_⟩
            unfold lstPut at h
            rw [q] at h
            exact h F μ _ σ (s.updRef hk r)
      | _ => rw [q] at h; cases h
/-- the list is a list before as well -/
theorem ixN_eq (n : Nat) (i : Int) : L2.ixN n i = ixN n i := rfl
theorem s_setIx {i : Nat} {o e k : Expr} {c ck : CE} {pos p2 : Pos} (ho : PE X o (tVar i)) (hk : PE X k (tM X.K xc W (ev G ck))) (he : PE X e (tM X.K xc W (ev G c))) (hs : swapsWithSole [.Subscript o k p2] e pos.line X.env = pure false)
    (hw : swappedStores [.Subscript o k p2] e X.env = pure none) (h1 : (assignEach [.Subscript o k p2] X.env).map (·.2) = [assign (.Subscript o k p2) X.env])
    (ha : ∀ v, assign (.Subscript o k p2) X.env v = (do
      let ov ← holding [v] (eval o X.env)
      let iv ← holding [v, ov] (eval k X.env)
      standAt p2
      holding [v, ov, iv] (setItem ov iv v)
      release [v, ov, iv] [])) : PS X (.Assign [.Subscript o k p2] e pos) (tMS X.K xc W (exec G (.setIx i ck c))) :=
  PS.weak (ps_asg he (pg_sub ho hk set_list ha) hs hw h1) fun D σ H ⟨F0, μ0, H0, F, μ, S, ρ, s, h⟩ => by
    refine ⟨F, μ, S, ρ, s.rel, s.er, toEs s (by rw [exec] at h; exact h) fun F1 H1 v b S1 e1 s1 bv h1 => ?_⟩
    cases q : b.frz with
    | none => rw [q] at h1; exact h1.elim
    | some d =>
    rw [q] at h1
    cases q2 : lstAt i ρ S1 with
    | none => rw [q2] at h1; exact h1.elim
    | some xs =>
    rw [q2] at h1
    obtain ⟨a, vs, hσ, _⟩ := lst_ok (xc := xc) (W := W) (D := D) s1 q2
    refine ⟨.ref a, hσ, F1, μ, S1, ρ, s1.rel, s1.er, toE s1 h1 fun F2 H2 w bw S2 e2 s2 bwv fr h2 => ?_⟩
    cases q3 : lstAt i ρ S2 with
    | none => rw [q3] at h2; split at h2 <;> first | exact h2.elim | (rename_i z; cases z)
    | some ys =>
    rw [q3] at h2
    split at h2
    · rename_i n zs ez
      cases ez
      cases q4 : ixN ys.length n with
      | none => rw [q4] at h2; exact h2.elim
      | some j =>
        rw [q4] at h2
        obtain ⟨a2, vs2, hσ2, ha2, r2, fin⟩ := lst_ok (xc := xc) (W := W) (D := D) s2 q3
        rw [hσ] at hσ2
        cases hσ2
        refine ⟨a, vs2, n, j, rfl, rp_int bwv, ha2, by rw [r2.length]; exact q4, fin _ _ (r2.set ((frz_still q bv).mono e2.fs) j) h2⟩
    · exact h2.elim
theorem s_app {i : Nat} {o e : Expr} {c : CE} {apos cpos pos : Pos} (ho : PE X o (tVar i)) (he : PE X e (tM X.K xc W (ev G c))) (hst : notStar e = true) (hbase : attributeBase o "append" X.env (eval o X.env) = eval o X.env)
    (hline : (apos.endLine == cpos.line) = true) (hfew : ((backTo cpos (starEach [e] X.env)).all (fun x => !x.1) && (backToKw cpos (keywordEach [] X.env)).all (fun x => x.1.isSome)
      && decide ([e].length + ([] : List Keyword).length + (if ([] : List Keyword).isEmpty then 0 else 1) < 30)) = true)
    (hs : swapsWith (.Call (.Attribute o "append" apos) [e] [] cpos) none pos.line X.env = pure false) : PS X (.Expr (.Call (.Attribute o "append" apos) [e] [] cpos) pos) (tMS X.K xc W (exec G (.app i c))) :=
  PS.weak (ps_expr (pe_bm F.plainAttrs_list F.slot_list_append F.type_list_append mt_append ho (pa_cons he pa_nil (starEach_plain hst)) hbase hfew hline (starEach_plain hst) rfl) hs) fun D σ H ⟨F0, μ0, H0, F, μ, S, ρ, s, h⟩ => by
    rw [exec] at h
    cases q0 : lstAt i ρ S with
    | none => rw [q0] at h; exact h.elim
    | some xs0 =>
    rw [q0] at h
    obtain ⟨a, vs, hσ, ha, _⟩ := lst_ok (xc := xc) (W := W) (D := D) s q0
    refine ⟨.ref a, hσ, .inl ⟨rfl, vs, SqL.of ha⟩, F, μ, S, ρ, s.rel, s.er, toEs s h fun F1 H1 v b S1 e1 s1 bv h1 => ?_⟩
    cases q : b.frz with
    | none => rw [q] at h1; exact h1.elim
    | some d =>
    rw [q] at h1
    cases q2 : lstAt i ρ S1 with
    | none => rw [q2] at h1; exact h1.elim
    | some xs =>
    rw [q2] at h1
    obtain ⟨a2, vs2, hσ2, ha2, r2, fin⟩ := lst_ok (xc := xc) (W := W) (D := D) s1 q2
    rw [hσ] at hσ2
    cases hσ2
    have h1 : okSt X.K xc F0 μ0 H0 W D (if xs.length < line then lstPut i (xs ++ [d]) ρ S1 else .bad) := h1
    by_cases l : xs.length < line
    · rw [if_pos l] at h1
      exact ⟨a, vs2, v, rfl, rfl, ha2, by rw [r2.length, ← line_eq]; exact l, fin _ _ (r2.append (.cons (frz_still q bv) .nil)) h1⟩
    · rw [if_neg l] at h1; exact h1.elim
theorem s_ext {i : Nat} {o e : Expr} {c : CE} {apos cpos pos : Pos} (ho : PE X o (tVar i)) (he : PE X e (tM X.K xc W (ev G c))) (hst : notStar e = true) (hbase : attributeBase o "extend" X.env (eval o X.env) = eval o X.env)
    (hline : (apos.endLine == cpos.line) = true) (hfew : ((backTo cpos (starEach [e] X.env)).all (fun x => !x.1) && (backToKw cpos (keywordEach [] X.env)).all (fun x => x.1.isSome)
      && decide ([e].length + ([] : List Keyword).length + (if ([] : List Keyword).isEmpty then 0 else 1) < 30)) = true)
    (hs : swapsWith (.Call (.Attribute o "extend" apos) [e] [] cpos) none pos.line X.env = pure false) : PS X (.Expr (.Call (.Attribute o "extend" apos) [e] [] cpos) pos) (tMS X.K xc W (exec G (.ext i c))) :=
  PS.weak (ps_expr (pe_bm F.plainAttrs_list F.slot_list_extend F.type_list_extend mt_extend ho (pa_cons he pa_nil (starEach_plain hst)) hbase hfew hline (starEach_plain hst) rfl) hs) fun D σ H ⟨F0, μ0, H0, F, μ, S, ρ, s, h⟩ => by
    rw [exec] at h
    cases q0 : lstAt i ρ S with
    | none => rw [q0] at h; exact h.elim
    | some xs0 =>
    rw [q0] at h
    obtain ⟨a, vs, hσ, ha, _⟩ := lst_ok (xc := xc) (W := W) (D := D) s q0
    refine ⟨.ref a, hσ, .inl ⟨rfl, vs, SqL.of ha⟩, F, μ, S, ρ, s.rel, s.er, toE s h fun F1 H1 v b S1 e1 s1 bv fr h1 => ?_⟩
    cases q : b.peek S1 with
    | none => rw [q] at h1; exact h1.elim
    | some d =>
    rw [q] at h1
    cases d with
    | lst ys =>
      cases q2 : lstAt i ρ S1 with
      | none => rw [q2] at h1; exact h1.elim
      | some xs =>
      rw [q2] at h1
      obtain ⟨a2, vs2, hσ2, ha2, r2, fin⟩ := lst_ok (xc := xc) (W := W) (D := D) s1 q2
      rw [hσ] at hσ2
      cases hσ2
      obtain ⟨a3, vs3, e3, ha3, r3⟩ := pk_lst s1.rel bv q
      have h1 : okSt X.K xc F0 μ0 H0 W D (if xs.length + ys.length ≤ line then lstPut i (xs ++ ys) ρ S1 else .bad) := h1
      by_cases l : xs.length + ys.length ≤ line
      · rw [if_pos l] at h1
        exact ⟨a, a3, vs2, vs3, rfl, by rw [e3], ha2, ha3, by rw [r2.length, r3.length, ← line_eq]; exact l, fin _ _ (r2.append r3) h1⟩
      · rw [if_neg l] at h1; exact h1.elim
    | _ => exact h1.elim
end
end Zw
set_option Elab.async false
set_option linter.all false
set_option maxRecDepth 100000
/-! Zw10: the text against the core: a check by computation. -/
namespace Zw
open PySem PySem.Spec PyProof.Rows L2
/-! ### what is checked in -/
/-- one law's names -/
structure Ck where
  fnm : List Str
  gcn : List Str
  free : List Str
  gcd : Bool
/-- a block's names -/
structure CkE where
  N : List Str
  sc : Scope
  fn : Str → Bool
def okName (x : Str) : Bool := !(x == ("__debug__" : Str)) && !(x == ("__classdict__" : Str))
def visB (sc : Scope) (x : Str) : Bool := match sc.names.lookup x with
  | some .local => true
  | some .cell => true
  | some .free => true
  | _ => false
def locB (sc : Scope) (x : Str) : Bool := match sc.names.lookup x with
  | some .local => true
  | some .cell => true
  | _ => false
def localB (sc : Scope) (x : Str) : Bool := match sc.names.lookup x with
  | some .local => true
  | _ => false
def glB (sc : Scope) (x : Str) : Bool := match sc.names.lookup x with
  | some .globalImplicit => true
  | _ => false
def atB (xs : List Str) (i : Nat) (x : Str) : Bool := decide (xs[i]? = some x)
def constB : Const → D → Bool
  | .none, .non => true
  | .bool b, .bl c => b == c
  | .int i, .int j => decide (i = j)
  | .str s, .str t => decide (s = t)
  | _, _ => false
def biNm : Bi → Option Str
  | .len => some "len"
  | .abs => some "abs"
  | .int => some "int"
  | .all => some "all"
  | .any => some "any"
  | .repr => some "repr"
  | .tuple => some "tuple"
  | .list => some "list"
  | .sum => some "sum"
  | _ => none
def biNm2 : Bi → Option Str
  | .max2 => some "max"
  | .min2 => some "min"
  | _ => none
def strEq (a b : Str) : Bool := decide (a = b)
def opEq : Operator → Operator → Bool
  | .Add, .Add => true
  | .Sub, .Sub => true
  | .Mult, .Mult => true
  | .Mod, .Mod => true
  | .FloorDiv, .FloorDiv => true
  | .Pow, .Pow => true
  | _, _ => false
def cmEq : CmpOp → CmpOp → Bool
  | .Eq, .Eq => true
  | .NotEq, .NotEq => true
  | .Lt, .Lt => true
  | .LtE, .LtE => true
  | .Gt, .Gt => true
  | .GtE, .GtE => true
  | .Is, .Is => true
  | .IsNot, .IsNot => true
  | .In, .In => true
  | .NotIn, .NotIn => true
  | _, _ => false
/-- a test of no form of its own -/
def plainT : Expr → Bool
  | .UnaryOp .. => false
  | .BoolOp .. => false
  | .IfExp .. => false
  | .Compare .. => false
  | _ => true
def notSet : Expr → Bool
  | .Set .. => false
  | _ => true
def ownOf (N : List Str) (own : List Nat) : List (Str × Nat) := own.filterMap fun i => (N[i]?).map fun x => (x, i)
/-- the comprehension's block -/
def CkE.blk (E : CkE) (scope : Scope) : CkE := ⟨E.N, relS scope E.sc, fun x => match scope.names.lookup x with
  | some .cell => true
  | _ => false⟩
mutual
def chkG (E : CkE) : Tg → Expr → Bool
  | .nm i, .Name x _ => atB E.N i x && locB E.sc x && (E.fn x || localB E.sc x)
  | .tup ts, .Tuple es _ _ => chkGs E ts es
  | _, _ => false
def chkGs (E : CkE) : List Tg → List Expr → Bool
  | [], [] => true
  | t :: ts, e :: es => notStar e && chkG E t e && chkGs E ts es
  | _, _ => false
end
def allB {α β : Type} (f : α → β → Bool) : List α → List β → Bool
  | [], [] => true
  | a :: as, b :: bs => f a b && allB f as bs
  | _, _ => false
def starB (f : CE → Expr → Bool) : List (Bool × CE) → List Expr → Bool
  | [], [] => true
  | (true, c) :: cs, .Starred e _ :: es => f c e && starB f cs es
  | (false, c) :: cs, e :: es => notStar e && f c e && starB f cs es
  | _, _ => false
def optB (f : CE → Expr → Bool) : Option CE → Option Expr → Bool
  | none, none => true
  | some c, some e => f c e
  | _, _ => false
def tyNm (ty : Ty) (x : Str) : Bool := match ty.name with
  | some n => decide (x = Str.ofString n)
  | none => false
def freeB (M : Ck) (E : CkE) (x : Str) : Bool := glB E.sc x && decide (x ∈ M.free)
def itB (M : Ck) (E : CkE) (f : CE → Expr → Bool) : Nat → List CE → Expr → Bool
  | 0, [c], e => f c e && notSet e
  | 1, [c], .Call (.Name x _) [e] [] _ => strEq x "range" && freeB M E x && f c e && notStar e
  | 2, [c, d], .Call (.Name x _) [e, e'] [] _ => strEq x "range" && freeB M E x && f c e && notStar e && f d e' && notStar e'
  | _, _, _ => false
def compB (M : Ck) (E : CkE) (f : CkE → CE → Expr → Bool) (t : CkE → CE → Expr → Bool) (kind : Nat) (its : List CE) (tg : Tg) (own : List Nat) (conds : List CE) (elt : CE) (el tge it : Expr) (ifs : List Expr) (scope : Scope) : Bool :=
  itB M E (f E) kind its it && blkC E.N E.sc scope (ownOf E.N own) && decide ((ownOf E.N own).map (·.2) = own) && (tg.slots.all fun i => decide (i ∈ own)) && chkG (E.blk scope) tg tge &&
    (match conds, ifs with
      | [], [] => true
      | [c], [e] => t (E.blk scope) c e
      | _, _ => false) && f (E.blk scope) elt el
def callB (M : Ck) (E : CkE) (f : CE → Expr → Bool) (g : Nat) (cs : List CE) (x : Str) (es : List Expr) : Bool := atB M.fnm g x && glB E.sc x && okName x && es.all notStar && allB f cs es
mutual
def chkE (M : Ck) : Nat → CkE → CE → Expr → Bool
  | 0, _, _, _ => false
  | n + 1, E, c, e => match c with
    | .var i => (match e with
      | .Name x _ => atB E.N i x && visB E.sc x && okName x
      | _ => false)
    | .cst d => (match e with
      | .Constant k _ _ => constB k d
      | _ => false)
    | .gc g => (match e with
      | .Name x _ => atB M.gcn g x && glB E.sc x && okName x
      | _ => false)
    | .bin op a b => (match e with
      | .BinOp l o r _ => opEq (opOf op) o && chkE M n E a l && chkE M n E b r
      | _ => false)
    | .neg a => (match e with
      | .UnaryOp .USub x _ => chkE M n E a x
      | _ => false)
    | .notv a => (match e with
      | .UnaryOp .Not x _ => chkE M n E a x
      | _ => false)
    | .andv cs => (match e with
      | .BoolOp .And es _ => !cs.isEmpty && allB (chkE M n E) cs es
      | _ => false)
    | .orv cs => (match e with
      | .BoolOp .Or es _ => !cs.isEmpty && allB (chkE M n E) cs es
      | _ => false)
    | .cmp op a b => (match e with
      | .Compare l [o] [r] _ => cmEq (cmOf op) o && notSet r && chkE M n E a l && chkE M n E b r
      | _ => false)
    | .chain o1 o2 a b c => (match e with
      | .Compare l [p1, p2] [m, r] _ => cmEq (cmOf o1) p1 && cmEq (cmOf o2) p2 && notSet m && notSet r && chkE M n E a l && chkE M n E b m && chkE M n E c r
      | _ => false)
    | .ife c a b => (match e with
      | .IfExp t x y _ => chkT M n E c t && chkE M n E a x && chkE M n E b y
      | _ => false)
    | .tup cs => (match e with
      | .Tuple es _ _ => starB (chkE M n E) cs es
      | _ => false)
    | .lst cs => (match e with
      | .List es _ => starB (chkE M n E) cs es
      | _ => false)
    | .ix a b => (match e with
      | .Subscript x i _ => notSlice i && chkE M n E a x && chkE M n E b i
      | _ => false)
    | .sl a lo hi => (match e with
      | .Subscript x (.Slice l h none _) _ => chkE M n E a x && optB (chkE M n E) lo l && optB (chkE M n E) hi h
      | _ => false)
    | .call f cs => (match e with
      | .Call (.Name x _) es [] _ => callB M E (chkE M n E) f cs x es
      | _ => false)
    | .b1 f a => (match e with
      | .Call (.Name x _) [e] [] _ => decide (biNm f = some x) && freeB M E x && chkE M n E a e && notStar e
      | .Call (.Name x _) [e, .Name y _] [] _ => (match f with
        | .isi ty => strEq x "isinstance" && freeB M E x && tyNm ty y && freeB M E y && chkE M n E a e && notStar e
        | _ => false)
      | _ => false)
    | .b2 f a b => (match e with
      | .Call (.Name x _) [e, e'] [] _ => (match f with
        | .gcd => strEq x "gcd" && M.gcd && glB E.sc x
        | f => decide (biNm2 f = some x) && freeB M E x) && chkE M n E a e && notStar e && chkE M n E b e' && notStar e'
      | _ => false)
    | .comp kind its tg own conds elt => (match e with
      | .ListComp el [⟨tge, it, ifs, 0⟩] scope _ => compB M E (chkE M n) (chkT M n) kind its tg own conds elt el tge it ifs scope
      | _ => false)
def chkT (M : Ck) : Nat → CkE → CE → Expr → Bool
  | 0, _, _, _ => false
  | n + 1, E, c, e => match e with
    | .UnaryOp .Not x _ => (match c with
      | .notv a => chkT M n E a x
      | _ => false)
    | .BoolOp .And es _ => (match c with
      | .andv cs => !cs.isEmpty && allB (chkT M n E) cs es
      | _ => false)
    | .BoolOp .Or es _ => (match c with
      | .orv cs => !cs.isEmpty && allB (chkT M n E) cs es
      | _ => false)
    | .Compare l [o] [r] _ => (match c with
      | .cmp op a b => cmEq (cmOf op) o && notSet r && chkE M n E a l && chkE M n E b r
      | _ => false)
    | .Compare l [p1, p2] [m, r] _ => (match c with
      | .chain o1 o2 a b c => cmEq (cmOf o1) p1 && cmEq (cmOf o2) p2 && notSet m && notSet r && chkE M n E a l && chkE M n E b m && chkE M n E c r
      | _ => false)
    | e => plainT e && chkE M n E c e
end
/-! ### a context that fits -/
/-- what a program's names stand for -/
structure Sta (M : Ck) (Gm : Gx) (xc : Nat → Option XCls) (k : Nat) (P : Program) (w : World) (K : PySem.W.Frag) (mg : Str → Option Value) (base : Heap) : Prop where
  fns : ∀ (f : Nat) (x : Str), M.fnm[f]? = some x → ∃ a, mg x = some (.ref a) ∧ PySem.W.keepIn K (.ref a) = true ∧ FnC P w K mg base xc k a (Gm.fn f)
  gcs : ∀ (g : Nat) (x : Str) (d : D), M.gcn[g]? = some x → Gm.gc g = some d → ∃ v u, mg x = some u ∧ RelV v u ∧ ∀ F, Rp K F v d
  free : ∀ x ∈ M.free, mg x = none
  gcd : M.gcd = true → mg "gcd" = some (.builtin "math.gcd")
structure Cg (M : Ck) (Gm : Gx) (xc : Nat → Option XCls) (k : Nat) (E : CkE) (X : Cx) (W : WX) : Prop where
  N : X.N = E.N
  nd : X.N.Nodup
  sc : X.env.scope = E.sc
  kind : E.sc.kind = .function
  calm : X.calm = true
  room : Room k X.A
  gd : X.A.guards = some []
  tk : Takes X W
  fn : ∀ x, E.fn x = true → X.fn x = true
  st : Sta M Gm xc k X.prog X.w X.K X.mg X.base
section
variable {M : Ck} {G : Gx} {xc : Nat → Option XCls} {k : Nat} {E : CkE} {X : Cx} {W : WX}
theorem b2a {a b : Bool} (h : (a && b) = true) : a = true ∧ b = true := Bool.and_eq_true_iff.mp h
theorem Cg.vis (g : Cg M G xc k E X W) {x : Str} (h : visB E.sc x = true) : Vis X.env.scope x := by
  rw [g.sc]
  unfold visB at h
  split at h
  · exact .inl (by assumption)
  · exact .inr (.inl (by assumption))
  · exact .inr (.inr (by assumption))
  · cases h
theorem Cg.loc (g : Cg M G xc k E X W) {x : Str} (h : locB E.sc x = true) : Loc X.env.scope x := by
  rw [g.sc]
  unfold locB at h
  split at h
  · exact .inl (by assumption)
  · exact .inr (by assumption)
  · cases h
theorem localB_ok {sc : Scope} {x : Str} (h : localB sc x = true) : sc.names.lookup x = some .local := by
  unfold localB at h
  split at h
  · assumption
  · cases h
theorem Cg.hf (g : Cg M G xc k E X W) {x : Str} (h : (E.fn x || localB E.sc x) = true) : X.fn x = true ∨ X.env.scope.names.lookup x = some .local := by
  rcases Bool.or_eq_true_iff.mp h with h | h
  · exact .inl (g.fn x h)
  · rw [g.sc]; exact .inr (localB_ok h)
theorem Cg.gl (g : Cg M G xc k E X W) {x : Str} (h : glB E.sc x = true) : L2.Gl X x := by
  unfold glB at h
  split at h
  · rename_i e
    show X.env.scope.names.lookup x = _
    rw [g.sc]; exact e
  · cases h
theorem Cg.ix (g : Cg M G xc k E X W) {i : Nat} {x : Str} (h : atB E.N i x = true) : X.N[i]? = some x := by
  rw [g.N]; exact of_decide_eq_true h
theorem okName_ok {x : Str} (h : okName x = true) : (x == ("__debug__" : Str)) = false ∧ (x == ("__classdict__" : Str)) = false := by
  obtain ⟨h1, h2⟩ := b2a h
  exact ⟨by simpa using h1, by simpa using h2⟩
theorem Cg.freeN (g : Cg M G xc k E X W) {x : Str} (h : freeB M E x = true) : L2.Gl X x ∧ X.mg x = none := by
  obtain ⟨h1, h2⟩ := b2a h
  exact ⟨g.gl h1, g.st.free x (of_decide_eq_true h2)⟩
theorem Cg.blk (g : Cg M G xc k E X W) {scope : Scope} (hk : scope.kind = .function) (s : Shared) (H : Hp) (C : Addr) (cl : List (Str × Addr)) (fp : List Addr) : Cg M G xc k (E.blk scope) (X.blk s H scope (compEnvC scope cl C X.env) fp) WF0 where
  N := g.N
  nd := g.nd
  sc := by
    show relS scope X.env.scope = relS scope E.sc
    rw [g.sc]
  kind := hk
  calm := g.calm
  room := g.room
  gd := g.gd
  tk := fun u s' ⟨a, B, sI, pins, σ, H, cls, d, _, _, _, _, _, _, _, _, z⟩ => z.elim
  fn := fun x h => by
    show (scope.names.lookup x == some .cell) = true
    have h : (match scope.names.lookup x with
      | some .cell => true
      | _ => false) = true := h
    split at h
    · rename_i e
      rw [e]
      rfl
    · cases h
  st := g.st
theorem opEq_ok {a b : Operator} (h : opEq a b = true) : a = b := by
  cases a <;> cases b <;> first | rfl | cases h
theorem cmEq_ok {a b : CmpOp} (h : cmEq a b = true) : a = b := by
  cases a <;> cases b <;> first | rfl | cases h
theorem notSet_ok {op : CmpOp} {e : Expr} (h : notSet e = true) : behindInMarks op e = false := by
  cases e <;> first | rfl | cases h
theorem constB_ok {c : Const} {d : D} (h : constB c d = true) : constD c = some d := by
  unfold constB at h
  split at h
  · rfl
  · rw [beq_iff_eq.mp h]; rfl
  · rw [of_decide_eq_true h]; rfl
  · rw [of_decide_eq_true h]; rfl
  · cases h
theorem notSet_fold {e : Expr} {env : PySem.Env} (h : notSet e = true) : ∀ x, foldedSetIterable e env x = pure x := by
  intro x
  cases e <;> first | rfl | cases h
/-! ### targets -/
theorem assignEach_map {env : PySem.Env} {e : Expr} {es : List Expr} (h : notStar e = true) : assignEach (e :: es) env = (false, assign e env) :: assignEach es env := by
  cases e <;> first | rfl | cases h
mutual
theorem chkG_ok (g : Cg M G xc k E X W) : ∀ (t : Tg) (e : Expr), chkG E t e = true → PG X e (gOf X.K t)
  | .nm i, e, h => by
    cases e with
    | Name x p =>
      rw [chkG] at h
      obtain ⟨h, h3⟩ := b2a h
      obtain ⟨h1, h2⟩ := b2a h
      rw [gOf]
      exact pg_name g.nd (g.ix h1) (g.loc h2) (g.hf h3)
    | _ => simp [chkG] at h
  | .tup ts, e, h => by
    cases e with
    | Tuple es k p =>
      rw [chkG] at h
      obtain ⟨h1, h2, h3⟩ := chkGs_ok g ts es h
      rw [gOf]
      exact pg_tup g.calm h1 h2 h3
    | _ => simp [chkG] at h
theorem chkGs_ok (g : Cg M G xc k E X W) : ∀ (ts : List Tg) (es : List Expr), chkGs E ts es = true → PGs X es (gsOf X.K ts) ∧ (assignEach es X.env).length = ts.length ∧ (assignEach es X.env).findIdx? (·.1) = none
  | [], es, h => by
    cases es with
    | nil => rw [gsOf]; exact ⟨pgs_nil, rfl, rfl⟩
    | cons _ _ => simp [chkGs] at h
  | t :: ts, es, h => by
    cases es with
    | nil => simp [chkGs] at h
    | cons e es =>
      rw [chkGs] at h
      obtain ⟨h, h3⟩ := b2a h
      obtain ⟨h1, h2⟩ := b2a h
      obtain ⟨k1, k2, k3⟩ := chkGs_ok g ts es h3
      rw [gsOf]
      refine ⟨pgs_cons (chkG_ok g t e h2) k1 (by rw [assignEach_map h1]; rfl), ?_, ?_⟩
      · rw [assignEach_map h1, List.length_cons, List.length_cons, k2]
      · rw [assignEach_map h1, List.findIdx?_cons, k3]
        rfl
end
end
end Zw
set_option Elab.async false
set_option linter.all false
set_option maxRecDepth 100000
/-! Zw11: the check of expressions is sound. -/
namespace Zw
open PySem PySem.Spec PyProof.Rows L2
section
variable {M : Ck} {G : Gx} {xc : Nat → Option XCls} {k : Nat} {E : CkE} {X : Cx} {W : WX}
theorem all_L {f : CE → Expr → Bool} (hf : ∀ c e, f c e = true → PE X e (tM X.K xc W (ev G c))) : ∀ {cs : List CE} {es : List Expr}, allB f cs es = true → es.all notStar = true → PA X es (tML X.K xc W (evl G cs))
  | [], [], _, _ => l_nil
  | [], _ :: _, h, _ => absurd h Bool.false_ne_true
  | _ :: _, [], h, _ => absurd h Bool.false_ne_true
  | c :: cs, e :: es, h, hs => by
    obtain ⟨h1, h2⟩ := b2a (show (f c e && allB f cs es) = true from h)
    rw [List.all_cons] at hs
    obtain ⟨s1, s2⟩ := b2a hs
    exact l_cons (hf c e h1) (all_L hf h2 s2) s1
theorem star_D {f : CE → Expr → Bool} (hf : ∀ c e, f c e = true → PE X e (tM X.K xc W (ev G c))) : ∀ {cs : List (Bool × CE)} {es : List Expr}, starB f cs es = true → PA X es (tMD X.K xc W (evs G cs))
  | [], [], _ => d_nil
  | [], _ :: _, h => by simp [starB] at h
  | (true, c) :: cs, [], h => by simp [starB] at h
  | (false, c) :: cs, [], h => by simp [starB] at h
  | (true, c) :: cs, e :: es, h => by
    cases e with
    | Starred e p =>
      rw [starB] at h
      obtain ⟨h1, h2⟩ := b2a h
      exact d_star (hf c e h1) (star_D hf h2)
    | _ => simp [starB] at h
  | (false, c) :: cs, e :: es, h => by
    rw [starB] at h
    obtain ⟨h, h3⟩ := b2a h
    obtain ⟨h1, h2⟩ := b2a h
    exact d_cons (hf c e h2) (star_D hf h3) (starEach_plain h1)
theorem opt_O {f : CE → Expr → Bool} (hf : ∀ c e, f c e = true → PE X e (tM X.K xc W (ev G c))) {c : Option CE} {e : Option Expr} (h : optB f c e = true) : PO X e (tMO X.K xc W (evO G c)) := by
  cases c with
  | none => cases e with
    | none => exact o_none
    | some e => exact absurd h Bool.false_ne_true
  | some c => cases e with
    | none => exact absurd h Bool.false_ne_true
    | some e => exact o_some (hf c e h)
theorem and_E {f : CE → Expr → Bool} {p : Pos} (hf : ∀ c e, f c e = true → PE X e (tM X.K xc W (ev G c))) : ∀ {cs : List CE} {es : List Expr}, allB f cs es = true → cs ≠ [] → PE X (.BoolOp .And es p) (tM X.K xc W (ev G (.andv cs)))
  | [], _, _, n => absurd rfl n
  | _ :: _, [], h, _ => absurd h Bool.false_ne_true
  | [c], [e], h, _ => by
    obtain ⟨h1, _⟩ := b2a (show (f c e && allB f [] []) = true from h)
    have e1 : ev G (.andv [c]) = ev G c := by funext ρ s; rw [ev, evAnd]
    rw [e1]
    exact r_and1 (hf c e h1)
  | [c], e :: e' :: es, h, _ => by
    obtain ⟨_, h2⟩ := b2a (show (f c e && allB f [] (e' :: es)) = true from h)
    exact absurd h2 Bool.false_ne_true
  | c :: c' :: cs, [e], h, _ => by
    obtain ⟨_, h2⟩ := b2a (show (f c e && allB f (c' :: cs) []) = true from h)
    exact absurd h2 Bool.false_ne_true
  | c :: c' :: cs, e :: e' :: es, h, _ => by
    obtain ⟨h1, h2⟩ := b2a (show (f c e && allB f (c' :: cs) (e' :: es)) = true from h)
    exact r_and (hf c e h1) (and_E hf h2 (by simp))
theorem or_E {f : CE → Expr → Bool} {p : Pos} (hf : ∀ c e, f c e = true → PE X e (tM X.K xc W (ev G c))) : ∀ {cs : List CE} {es : List Expr}, allB f cs es = true → cs ≠ [] → PE X (.BoolOp .Or es p) (tM X.K xc W (ev G (.orv cs)))
  | [], _, _, n => absurd rfl n
  | _ :: _, [], h, _ => absurd h Bool.false_ne_true
  | [c], [e], h, _ => by
    obtain ⟨h1, _⟩ := b2a (show (f c e && allB f [] []) = true from h)
    have e1 : ev G (.orv [c]) = ev G c := by funext ρ s; rw [ev, evOr]
    rw [e1]
    exact r_and1 (hf c e h1)
  | [c], e :: e' :: es, h, _ => by
    obtain ⟨_, h2⟩ := b2a (show (f c e && allB f [] (e' :: es)) = true from h)
    exact absurd h2 Bool.false_ne_true
  | c :: c' :: cs, [e], h, _ => by
    obtain ⟨_, h2⟩ := b2a (show (f c e && allB f (c' :: cs) []) = true from h)
    exact absurd h2 Bool.false_ne_true
  | c :: c' :: cs, e :: e' :: es, h, _ => by
    obtain ⟨h1, h2⟩ := b2a (show (f c e && allB f (c' :: cs) (e' :: es)) = true from h)
    exact r_or (hf c e h1) (or_E hf h2 (by simp))
theorem and_T {f : CE → Expr → Bool} {p : Pos} (hf : ∀ c e, f c e = true → PT X e (tMT X.K xc W (evT G c))) : ∀ {cs : List CE} {es : List Expr}, allB f cs es = true → cs ≠ [] → PW X (.BoolOp .And es p) (tMT X.K xc W (evT G (.andv cs)))
  | [], _, _, n => absurd rfl n
  | _ :: _, [], h, _ => absurd h Bool.false_ne_true
  | [c], [e], h, _ => by
    obtain ⟨h1, _⟩ := b2a (show (f c e && allB f [] []) = true from h)
    exact t_and1 (hf c e h1)
  | [c], e :: e' :: es, h, _ => by
    obtain ⟨_, h2⟩ := b2a (show (f c e && allB f [] (e' :: es)) = true from h)
    exact absurd h2 Bool.false_ne_true
  | c :: c' :: cs, [e], h, _ => by
    obtain ⟨_, h2⟩ := b2a (show (f c e && allB f (c' :: cs) []) = true from h)
    exact absurd h2 Bool.false_ne_true
  | c :: c' :: cs, e :: e' :: es, h, _ => by
    obtain ⟨h1, h2⟩ := b2a (show (f c e && allB f (c' :: cs) (e' :: es)) = true from h)
    exact t_and (hf c e h1) (and_T hf h2 (by simp))
theorem or_T {f : CE → Expr → Bool} {p : Pos} (hf : ∀ c e, f c e = true → PT X e (tMT X.K xc W (evT G c))) : ∀ {cs : List CE} {es : List Expr}, allB f cs es = true → cs ≠ [] → PW X (.BoolOp .Or es p) (tMT X.K xc W (evT G (.orv cs)))
  | [], _, _, n => absurd rfl n
  | _ :: _, [], h, _ => absurd h Bool.false_ne_true
  | [c], [e], h, _ => by
    obtain ⟨h1, _⟩ := b2a (show (f c e && allB f [] []) = true from h)
    exact t_or1 (hf c e h1)
  | [c], e :: e' :: es, h, _ => by
    obtain ⟨_, h2⟩ := b2a (show (f c e && allB f [] (e' :: es)) = true from h)
    exact absurd h2 Bool.false_ne_true
  | c :: c' :: cs, [e], h, _ => by
    obtain ⟨_, h2⟩ := b2a (show (f c e && allB f (c' :: cs) []) = true from h)
    exact absurd h2 Bool.false_ne_true
  | c :: c' :: cs, e :: e' :: es, h, _ => by
    obtain ⟨h1, h2⟩ := b2a (show (f c e && allB f (c' :: cs) (e' :: es)) = true from h)
    exact t_or (hf c e h1) (or_T hf h2 (by simp))
theorem notEmpty {α : Type} {cs : List α} (h : (!cs.isEmpty) = true) : cs ≠ [] := by
  intro e
  rw [e] at h
  cases h
/-! ### calls -/
theorem call_ok (g : Cg M G xc k E X W) {f : CE → Expr → Bool} (hf : ∀ c e, f c e = true → PE X e (tM X.K xc W (ev G c))) {i : Nat} {cs : List CE} {x : Str} {es : List Expr} {p pos : Pos} (h : callB M E f i cs x es = true) :
    PE X (.Call (.Name x p) es [] pos) (tM X.K xc W (ev G (.call i cs))) := by
  obtain ⟨h, h5⟩ := b2a h
  obtain ⟨h, h4⟩ := b2a h
  obtain ⟨h, h3⟩ := b2a h
  obtain ⟨h1, h2⟩ := b2a h
  obtain ⟨a, e1, e2, e3⟩ := g.st.fns i x (of_decide_eq_true h1)
  have hd := (okName_ok h3).1
  cases es with
  | nil =>
    cases cs with
    | cons _ _ => exact absurd h5 Bool.false_ne_true
    | nil =>
      have e : ev G (.call i []) = fun ρ s => callS (G.fn i) [] s := by
        funext ρ s
        rw [ev, evl]
        rfl
      rw [e]
      exact pe_callM0 e3 g.room g.gd g.tk (g.gl h2) e1 e2 hd
  | cons e es =>
    have ha := all_L hf h5 h4
    rw [List.all_cons] at h4
    obtain ⟨s1, s2⟩ := b2a h4
    have ee : ev G (.call i cs) = fun ρ s => (evl G cs ρ s).bind fun bs s => callS (G.fn i) bs s := by
      funext ρ s
      rw [ev]
    rw [ee]
    exact pe_callM e3 g.room g.gd g.tk (g.gl h2) e1 e2 ha hd (starEach_plain s1) (backTo_plain s2)
theorem free_ok {x : Str} (g : Cg M G xc k E X W) {s : Str} (e : some s = some x) (h : freeB M E x = true) : L2.Gl X s ∧ X.mg s = none := by
  cases e
  exact g.freeN h
theorem b1_ok (g : Cg M G xc k E X W) {f : Bi} {c : CE} {x : Str} {e : Expr} {p pos : Pos} (hn : biNm f = some x) (hx : freeB M E x = true) (he : PE X e (tM X.K xc W (ev G c))) (hs : notStar e = true) :
    PE X (.Call (.Name x p) [e] [] pos) (tM X.K xc W (ev G (.b1 f c))) := by
  have fr := g.freeN hx
  have ha := pa_cons he pa_nil (starEach_plain (env := X.env) hs)
  cases f with
  | len => cases hn; exact r_b1 (pe_callB call_lenA fr.1 fr.2 (by decide +kernel) ha (he := starEach_plain hs) (hpl := backTo_plain rfl)) fun _ _ _ _ _ _ _ _ r hx h => hop_len r hx h
  | abs => cases hn; exact r_b1 (pe_callB call_abs fr.1 fr.2 (by decide +kernel) ha (he := starEach_plain hs) (hpl := backTo_plain rfl)) fun _ _ _ _ _ _ _ _ r hx h => hop_abs r hx h
  | int => cases hn; exact r_b1 (pe_callTy call_int1 fr.1 fr.2 (by decide +kernel) ha (he := starEach_plain hs) (hpl := backTo_plain rfl)) fun _ _ _ _ _ _ _ _ r hx h => hop_int r hx h
  | all => cases hn; exact r_b1 (pe_callB (cr_all g.calm) fr.1 fr.2 (by decide +kernel) ha (he := starEach_plain hs) (hpl := backTo_plain rfl)) fun _ _ _ _ _ _ _ _ r hx h => hop_all r hx h
  | any => cases hn; exact r_b1 (pe_callB (cr_any g.calm) fr.1 fr.2 (by decide +kernel) ha (he := starEach_plain hs) (hpl := backTo_plain rfl)) fun _ _ _ _ _ _ _ _ r hx h => hop_any r hx h
  | repr => cases hn; exact r_b1 (pe_callB (call_reprA g.room g.gd) fr.1 fr.2 (by decide +kernel) ha (he := starEach_plain hs) (hpl := backTo_plain rfl)) fun _ _ _ _ _ _ _ _ r hx h => hop_repr r hx h
  | tuple => cases hn; exact r_b1 (pe_callTy call_tuple_of fr.1 fr.2 (by decide +kernel) ha (he := starEach_plain hs) (hpl := backTo_plain rfl)) fun _ _ _ _ _ _ _ _ r hx h => hop_tuple r hx h
  | list => cases hn; exact r_b1 (pe_callTy call_list_of fr.1 fr.2 (by decide +kernel) ha (he := starEach_plain hs) (hpl := backTo_plain rfl)) fun _ _ _ _ _ _ _ _ r hx h => hop_list r hx h
  | sum => cases hn; exact r_b1 (pe_callB (cr_sum g.calm) fr.1 fr.2 (by decide +kernel) ha (he := starEach_plain hs) (hpl := backTo_plain rfl)) fun _ _ _ _ _ _ _ _ r hx h => hop_sum r hx h
  | max2 => cases hn
  | min2 => cases hn
  | gcd => cases hn
  | isi ty => cases hn
theorem b2_ok (g : Cg M G xc k E X W) {f : Bi} {c c' : CE} {x : Str} {e e' : Expr} {p pos : Pos} (hn : biNm2 f = some x) (hx : freeB M E x = true) (he : PE X e (tM X.K xc W (ev G c))) (hs : notStar e = true) (he' : PE X e' (tM X.K xc W (ev G c'))) (hs' : notStar e' = true) :
    PE X (.Call (.Name x p) [e, e'] [] pos) (tM X.K xc W (ev G (.b2 f c c'))) := by
  have fr := g.freeN hx
  have ha := pa_cons he (pa_cons he' pa_nil (starEach_plain (env := X.env) hs')) (starEach_plain (env := X.env) hs)
  have hp : (backTo pos (starEach [e'] X.env)).any (·.1) = false := backTo_plain (by simp [hs'])
  cases f with
  | max2 => cases hn; exact r_b2 (pe_callB (call_max2 g.calm) fr.1 fr.2 (by decide +kernel) ha (he := starEach_plain hs) (hpl := hp)) fun _ _ _ _ _ _ _ _ _ _ r hx hy h => hop_2I rfl r hx hy h
  | min2 => cases hn; exact r_b2 (pe_callB (call_min2 g.calm) fr.1 fr.2 (by decide +kernel) ha (he := starEach_plain hs) (hpl := hp)) fun _ _ _ _ _ _ _ _ _ _ r hx hy h => hop_2I rfl r hx hy h
  | _ => cases hn
theorem gcd_ok (g : Cg M G xc k E X W) {c c' : CE} {e e' : Expr} {p pos : Pos} (hm : X.mg "gcd" = some (.builtin "math.gcd")) (hg : L2.Gl X "gcd") (he : PE X e (tM X.K xc W (ev G c))) (hs : notStar e = true) (he' : PE X e' (tM X.K xc W (ev G c'))) (hs' : notStar e' = true) :
    PE X (.Call (.Name "gcd" p) [e, e'] [] pos) (tM X.K xc W (ev G (.b2 .gcd c c'))) :=
  r_b2 (pe_callBfun cr_gcd hg hm (pa_cons he (pa_cons he' pa_nil (starEach_plain (env := X.env) hs')) (starEach_plain (env := X.env) hs)) (he := starEach_plain hs) (hpl := backTo_plain (by simp [hs'])))
    fun _ _ _ _ _ _ _ _ _ _ r hx hy h => by
      obtain ⟨i, j, e, q⟩ := hop_2I (f := fun i j => (Int.gcd i j : Nat)) rfl r hx hy h
      exact ⟨i, j, e, q⟩
theorem isi_ok (g : Cg M G xc k E X W) {ty : Ty} {c : CE} {y : Str} {e : Expr} {p p2 pos : Pos} (hi : freeB M E "isinstance" = true) (hy : tyNm ty y = true) (hf : freeB M E y = true) (he : PE X e (tM X.K xc W (ev G c))) (hs : notStar e = true) :
    PE X (.Call (.Name "isinstance" p) [e, .Name y p2] [] pos) (tM X.K xc W (ev G (.b1 (.isi ty) c))) := by
  unfold tyNm at hy
  cases q : ty.name with
  | none => rw [q] at hy; cases hy
  | some n =>
    rw [q] at hy
    have e1 : y = Str.ofString n := of_decide_eq_true hy
    subst e1
    have fr := g.freeN hf
    refine r_isi q he (g.freeN hi).1 (g.freeN hi).2 ?_ hs
    cases ty <;> cases q <;> exact pe_bltn fr.1 fr.2 (by decide +kernel) rfl
/-! ### comprehensions -/
theorem it_ok (g : Cg M G xc k E X W) {f : CE → Expr → Bool} (hf : ∀ c e, f c e = true → PE X e (tM X.K xc W (ev G c))) {kind : Nat} {its : List CE} {it tg : Expr} (h : itB M E f kind its it = true) :
    PI X tg it (tMI X.K xc W (wkM G kind its)) ∧ ∀ x, foldedSetIterable it X.env x = pure x := by
  unfold itB at h
  split at h
  · obtain ⟨h1, h2⟩ := b2a h
    exact ⟨i_items (hf _ _ h1), notSet_fold h2⟩
  · obtain ⟨h, h4⟩ := b2a h
    obtain ⟨h, h3⟩ := b2a h
    obtain ⟨h1, h2⟩ := b2a h
    have e := of_decide_eq_true h1
    subst e
    have fr := g.freeN h2
    exact ⟨i_range1 fr.1 fr.2 (l_cons (hf _ _ h3) l_nil h4) h4, notSet_fold rfl⟩
  · obtain ⟨h, h6⟩ := b2a h
    obtain ⟨h, h5⟩ := b2a h
    obtain ⟨h, h4⟩ := b2a h
    obtain ⟨h, h3⟩ := b2a h
    obtain ⟨h1, h2⟩ := b2a h
    have e := of_decide_eq_true h1
    subst e
    have fr := g.freeN h2
    exact ⟨i_range2 fr.1 fr.2 (l_cons (hf _ _ h3) (l_cons (hf _ _ h5) l_nil h6) h4) h4 h6, notSet_fold rfl⟩
  · cases h
/-- the parts of a comprehension -/
structure CompOk (M : Ck) (G : Gx) (xc : Nat → Option XCls) (X : Cx) (W : WX) (kind : Nat) (its : List CE) (tg : Tg) (own : List Nat) (conds : List CE) (elt : CE) (el tge ite : Expr) (ifs : List Expr) (scope : Scope) (ow : List (Str × Nat)) : Prop where
  it : PI X tge ite (tMI X.K xc W (wkM G kind its))
  fs : ∀ x, foldedSetIterable ite X.env x = pure x
  bo : BlkOk X.N X.env.scope scope ow
  ow : ow.map (·.2) = own
  sl : ∀ i ∈ tg.slots, i ∈ own
  tg : ∀ (s : Shared) (H : Hp) (C : Addr) (cl : List (Str × Addr)) (fp : List Addr), PG (X.blk s H scope (compEnvC scope cl C X.env) fp) tge (gOf X.K tg)
  cd : ∀ (s : Shared) (H : Hp) (C : Addr) (cl : List (Str × Addr)) (fp : List Addr), PTs (X.blk s H scope (compEnvC scope cl C X.env) fp) ifs (tMT X.K xc WF0 (evConds G conds))
  el : ∀ (s : Shared) (H : Hp) (C : Addr) (cl : List (Str × Addr)) (fp : List Addr), PE (X.blk s H scope (compEnvC scope cl C X.env) fp) el (tM X.K xc WF0 (ev G elt))
theorem comp_ok (g : Cg M G xc k E X W) {f t : CkE → CE → Expr → Bool} (hf : ∀ E X W c e, Cg M G xc k E X W → f E c e = true → PE X e (tM X.K xc W (ev G c))) (ht : ∀ E X W c e, Cg M G xc k E X W → t E c e = true → PT X e (tMT X.K xc W (evT G c)))
    {kind : Nat} {its : List CE} {tg : Tg} {own : List Nat} {conds : List CE} {elt : CE} {el tge it : Expr} {ifs : List Expr} {scope : Scope} (h : compB M E f t kind its tg own conds elt el tge it ifs scope = true) :
    CompOk M G xc X W kind its tg own conds elt el tge it ifs scope (ownOf E.N own) := by
  obtain ⟨h, h7⟩ := b2a h
  obtain ⟨h, h6⟩ := b2a h
  obtain ⟨h, h5⟩ := b2a h
  obtain ⟨h, h4⟩ := b2a h
  obtain ⟨h, h3⟩ := b2a h
  obtain ⟨h1, h2⟩ := b2a h
  have bo := blkOk_by h2
  obtain ⟨i1, i2⟩ := it_ok g (tg := tge) (fun c e => hf E X W c e g) h1
  have gb := fun s H C cl fp => g.blk bo.kind s H C cl fp
  refine ⟨i1, i2, by rw [g.N, g.sc]; exact bo, of_decide_eq_true h3, fun i hi => of_decide_eq_true (List.all_eq_true.mp h4 i hi), fun s H C cl fp => chkG_ok (gb s H C cl fp) tg tge h5, fun s H C cl fp => ?_, fun s H C cl fp => hf _ _ _ _ _ (gb s H C cl fp) h7⟩
  split at h6
  · exact ts_nil
  · exact ts_one (ht _ _ _ _ _ (gb s H C cl fp) h6)
  · cases h6
/-! ### all -/
theorem marks2 {o1 o2 : CmpOp} {a b : Expr} (h : notSet b = true) : lastMarks [o1, o2] [a, b] = false := notSet_ok h
theorem chk_ok (M : Ck) (G : Gx) (xc : Nat → Option XCls) (k : Nat) : ∀ n, (∀ E X W c e, Cg M G xc k E X W → chkE M n E c e = true → PE X e (tM X.K xc W (ev G c))) ∧
    (∀ E X W c e, Cg M G xc k E X W → chkT M n E c e = true → PT X e (tMT X.K xc W (evT G c))) := by
  intro n
  induction n with
  | zero =>
    refine ⟨fun E X W c e g h => ?_, fun E X W c e g h => ?_⟩
    · rw [chkE.eq_def] at h; exact absurd h Bool.false_ne_true
    · rw [chkT.eq_def] at h; exact absurd h Bool.false_ne_true
  | succ n ih =>
    obtain ⟨ihE, ihT⟩ := ih
    have partE : ∀ E X W c e, Cg M G xc k E X W → chkE M (n + 1) E c e = true → PE X e (tM X.K xc W (ev G c)) := by
      intro E X W c e g h
      have hE := fun c e => ihE E X W c e g
      have hT := fun c e => ihT E X W c e g
      cases c with
      | var i =>
        rw [chkE.eq_def] at h
        dsimp only at h
        split at h
        · obtain ⟨h, h3⟩ := b2a h
          obtain ⟨h1, h2⟩ := b2a h
          exact r_var (pe_var (g.ix h1) (g.vis h2) (okName_ok h3).1 (okName_ok h3).2)
        · cases h
      | cst d =>
        rw [chkE.eq_def] at h
        dsimp only at h
        split at h
        · exact r_cst (constB_ok h)
        · cases h
      | gc i =>
        rw [chkE.eq_def] at h
        dsimp only at h
        split at h
        · obtain ⟨h, h3⟩ := b2a h
          obtain ⟨h1, h2⟩ := b2a h
          rename_i x _
          cases q : G.gc i with
          | none =>
            refine ⟨fun pins s σ H Q I ⟨F, μ, S, ρ, rel, er, z⟩ => ?_⟩
            rw [ev, q] at z
            exact z.elim
          | some d =>
            obtain ⟨v, u, e1, e2, e3⟩ := g.st.gcs i _ d (of_decide_eq_true h1) q
            exact r_val (pe_glob (g.gl h2) e1 e2 (okName_ok h3).1) e3 fun ρ s => by rw [ev, q]; rfl
        · cases h
      | bin op a b =>
        rw [chkE.eq_def] at h
        dsimp only at h
        split at h
        · obtain ⟨h, h3⟩ := b2a h
          obtain ⟨h1, h2⟩ := b2a h
          rw [← opEq_ok h1]
          exact r_binAll (hE _ _ h2) (hE _ _ h3)
        · cases h
      | neg a =>
        rw [chkE.eq_def] at h
        dsimp only at h
        split at h
        · exact r_neg (hE _ _ h)
        · cases h
      | notv a =>
        rw [chkE.eq_def] at h
        dsimp only at h
        split at h
        · exact r_not (hE _ _ h)
        · cases h
      | andv cs =>
        rw [chkE.eq_def] at h
        dsimp only at h
        split at h
        · obtain ⟨h1, h2⟩ := b2a h
          exact and_E hE h2 (notEmpty h1)
        · cases h
      | orv cs =>
        rw [chkE.eq_def] at h
        dsimp only at h
        split at h
        · obtain ⟨h1, h2⟩ := b2a h
          exact or_E hE h2 (notEmpty h1)
        · cases h
      | cmp op a b =>
        rw [chkE.eq_def] at h
        dsimp only at h
        split at h
        · obtain ⟨h, h4⟩ := b2a h
          obtain ⟨h, h3⟩ := b2a h
          obtain ⟨h1, h2⟩ := b2a h
          rw [← cmEq_ok h1]
          exact r_cmp g.room (hE _ _ h3) (hE _ _ h4) (notSet_ok h2)
        · cases h
      | chain o1 o2 a b c =>
        rw [chkE.eq_def] at h
        dsimp only at h
        split at h
        · obtain ⟨h, h7⟩ := b2a h
          obtain ⟨h, h6⟩ := b2a h
          obtain ⟨h, h5⟩ := b2a h
          obtain ⟨h, h4⟩ := b2a h
          obtain ⟨h, h3⟩ := b2a h
          obtain ⟨h1, h2⟩ := b2a h
          rw [← cmEq_ok h1, ← cmEq_ok h2]
          exact r_chain g.room (hE _ _ h5) (hE _ _ h6) (hE _ _ h7) (marks2 h4) (notSet_ok h3) (notSet_ok h4)
        · cases h
      | ife c a b =>
        rw [chkE.eq_def] at h
        dsimp only at h
        split at h
        · obtain ⟨h, h3⟩ := b2a h
          obtain ⟨h1, h2⟩ := b2a h
          exact r_ife (hT _ _ h1) (hE _ _ h2) (hE _ _ h3)
        · cases h
      | tup cs =>
        rw [chkE.eq_def] at h
        dsimp only at h
        split at h
        · exact r_tup (star_D hE h)
        · cases h
      | lst cs =>
        rw [chkE.eq_def] at h
        dsimp only at h
        split at h
        · exact r_lst (star_D hE h)
        · cases h
      | ix a b =>
        rw [chkE.eq_def] at h
        dsimp only at h
        split at h
        · obtain ⟨h, h3⟩ := b2a h
          obtain ⟨h1, h2⟩ := b2a h
          exact r_ix (hE _ _ h2) (hE _ _ h3) h1
        · cases h
      | sl a lo hi =>
        rw [chkE.eq_def] at h
        dsimp only at h
        split at h
        · obtain ⟨h, h3⟩ := b2a h
          obtain ⟨h1, h2⟩ := b2a h
          exact r_sl (hE _ _ h1) (opt_O hE h2) (opt_O hE h3)
        · cases h
      | call f cs =>
        rw [chkE.eq_def] at h
        dsimp only at h
        split at h
        · exact call_ok g hE h
        · cases h
      | b1 f a =>
        rw [chkE.eq_def] at h
        dsimp only at h
        split at h
        · obtain ⟨h, h4⟩ := b2a h
          obtain ⟨h, h3⟩ := b2a h
          obtain ⟨h1, h2⟩ := b2a h
          exact b1_ok g (of_decide_eq_true h1) h2 (hE _ _ h3) h4
        · split at h
          · obtain ⟨h, h6⟩ := b2a h
            obtain ⟨h, h5⟩ := b2a h
            obtain ⟨h, h4⟩ := b2a h
            obtain ⟨h, h3⟩ := b2a h
            obtain ⟨h1, h2⟩ := b2a h
            have e := of_decide_eq_true h1
            subst e
            exact isi_ok g h2 h3 h4 (hE _ _ h5) h6
          · cases h
        · cases h
      | b2 f a b =>
        rw [chkE.eq_def] at h
        dsimp only at h
        split at h
        · obtain ⟨h, h5⟩ := b2a h
          obtain ⟨h, h4⟩ := b2a h
          obtain ⟨h, h3⟩ := b2a h
          obtain ⟨h1, h2⟩ := b2a h
          split at h1
          · obtain ⟨h1, h8⟩ := b2a h1
            obtain ⟨h6, h7⟩ := b2a h1
            have e := of_decide_eq_true h6
            subst e
            exact gcd_ok g (g.st.gcd h7) (g.gl h8) (hE _ _ h2) h3 (hE _ _ h4) h5
          · obtain ⟨h6, h7⟩ := b2a h1
            exact b2_ok g (of_decide_eq_true h6) h7 (hE _ _ h2) h3 (hE _ _ h4) h5
        · cases h
      | comp kind its tg own conds elt =>
        rw [chkE.eq_def] at h
        dsimp only at h
        split at h
        · have o := comp_ok g ihE ihT h
          exact r_comp g.calm g.nd o.it o.bo o.ow o.sl o.tg o.cd o.el o.fs
        · cases h
    refine ⟨partE, fun E X W c e g h => ?_⟩
    have hE := fun c e => ihE E X W c e g
    have hT := fun c e => ihT E X W c e g
    rw [chkT.eq_def] at h
    dsimp only at h
    split at h
    · split at h
      · exact t_not (hT _ _ h)
      · cases h
    · split at h
      · obtain ⟨h1, h2⟩ := b2a h
        exact (and_T hT h2 (notEmpty h1)).pt
      · cases h
    · split at h
      · obtain ⟨h1, h2⟩ := b2a h
        exact (or_T hT h2 (notEmpty h1)).pt
      · cases h
    · split at h
      · obtain ⟨h, h4⟩ := b2a h
        obtain ⟨h, h3⟩ := b2a h
        obtain ⟨h1, h2⟩ := b2a h
        rw [← cmEq_ok h1]
        exact t_cmp g.room (hE _ _ h3) (hE _ _ h4) (notSet_ok h2)
      · cases h
    · split at h
      · obtain ⟨h, h7⟩ := b2a h
        obtain ⟨h, h6⟩ := b2a h
        obtain ⟨h, h5⟩ := b2a h
        obtain ⟨h, h4⟩ := b2a h
        obtain ⟨h, h3⟩ := b2a h
        obtain ⟨h1, h2⟩ := b2a h
        rw [← cmEq_ok h1, ← cmEq_ok h2]
        exact t_chain g.room (hE _ _ h5) (hE _ _ h6) (hE _ _ h7) (marks2 h4)
      · cases h
    · obtain ⟨h1, h2⟩ := b2a h
      refine t_val (hE _ _ h2) fun whole => ?_
      cases e <;> first | rfl | cases h1
end
end Zw
set_option Elab.async false
set_option linter.all false
set_option maxRecDepth 100000
/-! Zw12: the check of statements, sound. -/
namespace Zw
open PySem PySem.Spec PyProof.Rows L2
/-! ### the check -/
def compSc : Expr → Option (Scope × Pos)
  | .ListComp _ _ s p => some (s, p)
  | .SetComp _ _ s p => some (s, p)
  | .DictComp _ _ _ s p => some (s, p)
  | _ => none
def notComp (e : Expr) : Bool := (compSc e).isNone
def notTup : Expr → Bool
  | .Tuple .. => false
  | _ => true
def notName : Expr → Bool
  | .Name .. => false
  | _ => true
def swB (sc : Scope) (x : Str) (l : Nat) (s : Scope) (p : Pos) : Bool := (sc.names.lookup x == some .local) && (l == p.line) && !(s.names.any fun (n, k) => n == x && (k == .local || k == .cell))
def nameOf : Expr → Option (Str × Pos)
  | .Name x p => some (x, p)
  | _ => none
def asgC (M : Ck) (n : Nat) (E : CkE) (c : CE) (v : Expr) : Bool := match c with
  | .comp kind its tg own conds elt => (match v with
    | .ListComp el [⟨tge, it, ifs, 0⟩] scope _ => compB M E (chkE M n) (chkT M n) kind its tg own conds elt el tge it ifs scope
    | _ => false)
  | _ => false
def asgB (M : Ck) (n : Nat) (E : CkE) (i : Nat) (c : CE) (x : Str) (p : Pos) (v : Expr) : Bool := atB E.N i x && locB E.sc x && (E.fn x || localB E.sc x) &&
  match compSc v with
  | none => chkE M n E c v
  | some (s, vp) => (swB E.sc x p.line s vp && asgC M n E c v) || (!swB E.sc x p.line s vp && chkE M n E c v)
def two (M : Ck) (n : Nat) (E : CkE) (i : Nat) (x : Str) : Bool := atB E.N i x && localB E.sc x
def foldB (vs : List Expr) : Bool := !(vs.all (foldedForSure 8)) && !(vs.all (constantsAlone 8))
def parB (M : Ck) (n : Nat) (E : CkE) (is : List Nat) (cs : List CE) (ts vs : List Expr) : Bool := match is, cs, ts, vs with
  | [i, j], [c, d], [.Name x px, .Name y py], [a, b] => two M n E i x && two M n E j y && !(i == j) && !(x == y) && (px.line == py.line) && notStar a && notStar b && foldB [a, b] && chkE M n E c a && chkE M n E d b
  | [i, j, l], [c, d, e], [.Name x px, .Name y py, .Name z pz], [a, b, v] => two M n E i x && two M n E j y && two M n E l z && !(i == j) && !(i == l) && !(j == l) && !(x == y) && !(x == z) && !(y == z) && (px.line == py.line) && (px.line == pz.line) &&
    notStar a && notStar b && notStar v && foldB [a, b, v] && chkE M n E c a && chkE M n E d b && chkE M n E e v
  | _, _, _, _ => false
def varB (E : CkE) (i : Nat) (x : Str) : Bool := atB E.N i x && visB E.sc x && okName x
mutual
def chkS (M : Ck) : Nat → CkE → CS → Stmt → Bool
  | 0, _, _, _ => false
  | n + 1, E, c, st => match c with
    | .pass => (match st with
      | .Pass _ => true
      | _ => false)
    | .never => true
    | .expr c => (match st with
      | .Expr e _ => chkE M n E c e && notComp e
      | _ => false)
    | .asg i c => (match st with
      | .Assign [.Name x p] v _ => asgB M n E i c x p v
      | _ => false)
    | .asgT t c => (match st with
      | .Assign [.Tuple es k p] v _ => chkG E t (.Tuple es k p) && chkE M n E c v && notComp v && (notTup v || es.any notName)
      | _ => false)
    | .par is cs => (match st with
      | .Assign [.Tuple ts _ _] (.Tuple vs _ _) _ => parB M n E is cs ts vs
      | _ => false)
    | .aug i op c => (match st with
      | .AugAssign (.Name x _) o v _ => augOk op && opEq (opOf op) o && atB E.N i x && locB E.sc x && (E.fn x || localB E.sc x) && chkE M n E c v
      | _ => false)
    | .setIx i ck c => (match st with
      | .Assign [.Subscript (.Name x _) k _] v _ => varB E i x && notSlice k && chkE M n E ck k && chkE M n E c v && notComp v
      | _ => false)
    | .app i c => (match st with
      | .Expr (.Call (.Attribute (.Name x _) m ap) [a] [] cp) _ => varB E i x && strEq m "append" && (ap.endLine == cp.line) && notStar a && chkE M n E c a
      | _ => false)
    | .ext i c => (match st with
      | .Expr (.Call (.Attribute (.Name x _) m ap) [a] [] cp) _ => varB E i x && strEq m "extend" && (ap.endLine == cp.line) && notStar a && chkE M n E c a
      | _ => false)
    | .ret c => (match st with
      | .Return (some e) _ => (match c with
        | .var i => (match e with
          | .Name x _ => varB E i x
          | _ => false)
        | c => chkE M n E c e)
      | _ => false)
    | .retN => (match st with
      | .Return none _ => true
      | _ => false)
    | .ite c a b => (match st with
      | .If t x y _ => chkT M n E c t && chkSs M n E a x && chkSs M n E b y
      | _ => false)
    | .for_ cs kind its tg body => (match st with
      | .For t it bd [] _ => itB M E (chkE M n E) kind its it && chkG E tg t && chkSs M n E body bd
      | _ => false)
    | .while_ c body => (match st with
      | .While t bd [] _ => chkT M n E c t && chkSs M n E body bd
      | _ => false)
    | .brk => (match st with
      | .Break _ => true
      | _ => false)
    | .cont => (match st with
      | .Continue _ => true
      | _ => false)
    | .frz _ => false
    | .mv _ => false
def chkSs (M : Ck) : Nat → CkE → List CS → List Stmt → Bool
  | 0, _, _, _ => false
  | n + 1, E, cs, sts => match cs with
    | [] => sts.isEmpty
    | c :: cs => (match c with
      | .frz _ => chkSs M n E cs sts
      | .mv _ => chkSs M n E cs sts
      | c => (match sts with
        | [] => false
        | st :: sts => chkS M n E c st && chkSs M n E cs sts))
end
section
variable {M : Ck} {G : Gx} {xc : Nat → Option XCls} {k : Nat} {E : CkE} {X : Cx} {W : WX}
theorem blockKind_fn {env : PySem.Env} (h : env.scope.kind = .function) : env.blockKind = .function := by unfold Env.blockKind; rw [h]; rfl
theorem notComp_sw {e : Expr} {t : Option Expr} {l : Nat} {env : PySem.Env} (h : notComp e = true) : swapsWith e t l env = pure false := by
  cases e <;> first | rfl | cases h
theorem sw_name {v : Expr} {x : Str} {p : Pos} {l : Nat} {env : PySem.Env} {s : Scope} {vp : Pos} (hk : env.scope.kind = .function) (h : compSc v = some (s, vp)) : swapsWith v (some (.Name x p)) l env = pure (swB env.scope x p.line s vp) := by
  have hb := blockKind_fn hk
  cases v with
  | ListComp _ _ s' p' => cases h; unfold swapsWith swB; simp [hb, Env.kindOf]; rfl
  | SetComp _ _ s' p' => cases h; unfold swapsWith swB; simp [hb, Env.kindOf]; rfl
  | DictComp _ _ _ s' p' => cases h; unfold swapsWith swB; simp [hb, Env.kindOf]; rfl
  | _ => cases h
theorem swap_eq {env : PySem.Env} {ts vs : List Expr} {kt k2 : Nat} {pt pt2 : Pos} : ∃ (F : Expr → Bool) (N : Nat → Expr → Option Str), (∀ e, notStar e = true → F e = false) ∧ (∀ l x p, N l (.Name x p) = if env.kindOf x == some .local && p.line == l then some x else none) ∧
    (env.blockKind = .function → (ts.length == 2 || ts.length == 3) = true → vs.length = ts.length → vs.any F = false → ∀ names, ts.filterMap (N ((ts.head?.map (·.pos.line)).getD 0)) = names → names.length = ts.length → names.eraseDups.length = names.length →
      vs.all (foldedForSure 8) = false → vs.all (constantsAlone 8) = false → swappedStores [.Tuple ts kt pt] (.Tuple vs k2 pt2) env = pure (some names)) := by
  refine ⟨fun | .Starred .. => true | _ => false, fun l e => match e with | .Name id pos => if env.kindOf id == some .local && pos.line == l then some id else none | _ => none, ?_, fun _ _ _ => rfl, ?_⟩
  · intro e h
    cases e <;> first | rfl | cases h
  · intro h1 h2 h3 h4 names h5 h6 h7 h8 h9
    unfold swappedStores
    dsimp only
    rw [h1, h3, h2]
    simp only [bne_self_eq_false, Bool.not_true, Bool.or_false, Bool.false_eq_true, if_false, h8, h9]
    have key : ∀ (b : Bool) (n : List Str), b = false → n = names → (if b = true then (pure none : Sem (Option (List Str))) else if (n.length != ts.length || n.eraseDups.length != n.length) = true then (pure none : Sem (Option (List Str))) else pure (some n)) = pure (some names) := fun b n e0 e => by
      subst e e0
      rw [h6, h7, h6]
      simp
    exact key _ _ h4 h5
theorem foldB_ok {vs : List Expr} (h : foldB vs = true) : vs.all (foldedForSure 8) = false ∧ vs.all (constantsAlone 8) = false := by
  obtain ⟨f1, f2⟩ := b2a h
  constructor
  · cases q : vs.all (foldedForSure 8) with | false => rfl | true => rw [q] at f1; cases f1
  · cases q : vs.all (constantsAlone 8) with | false => rfl | true => rw [q] at f2; cases f2
theorem beq_sym {x y : Str} (h : (x == y) = false) : (y == x) = false := by
  cases q : y == x with
  | false => rfl
  | true =>
    rw [beq_iff_eq.mp q] at h
    simp at h
theorem swapped2 {env : PySem.Env} {x y : Str} {px py pt pt2 : Pos} {kt k2 : Nat} {a b : Expr} (hk : env.scope.kind = .function) (hx : env.scope.names.lookup x = some .local) (hy : env.scope.names.lookup y = some .local) (hxy : (x == y) = false) (hl : (px.line == py.line) = true)
    (ha : notStar a = true) (hb : notStar b = true) (hf : foldB [a, b] = true) : swappedStores [.Tuple [.Name x px, .Name y py] kt pt] (.Tuple [a, b] k2 pt2) env = pure (some [x, y]) := by
  obtain ⟨F, N, e1, e2, e3⟩ := swap_eq (env := env) (ts := [.Name x px, .Name y py]) (vs := [a, b]) (kt := kt) (k2 := k2) (pt := pt) (pt2 := pt2)
  refine e3 (blockKind_fn hk) rfl rfl (by simp [e1 a ha, e1 b hb]) [x, y] ?_ rfl ?_ (foldB_ok hf).1 (foldB_ok hf).2
  · have l : py.line = px.line := (beq_iff_eq.mp hl).symm
    simp [List.filterMap_cons, e2, Expr.pos, Env.kindOf, hx, hy, l]
  · simp [List.eraseDups, List.eraseDupsBy, List.eraseDupsBy.loop, hxy, beq_sym hxy]
theorem swapped3 {env : PySem.Env} {x y z : Str} {px py pz pt pt2 : Pos} {kt k2 : Nat} {a b c : Expr} (hk : env.scope.kind = .function) (hx : env.scope.names.lookup x = some .local) (hy : env.scope.names.lookup y = some .local) (hz : env.scope.names.lookup z = some .local)
    (hxy : (x == y) = false) (hxz : (x == z) = false) (hyz : (y == z) = false) (hl : (px.line == py.line) = true) (hl2 : (px.line == pz.line) = true)
    (ha : notStar a = true) (hb : notStar b = true) (hc : notStar c = true) (hf : foldB [a, b, c] = true) : swappedStores [.Tuple [.Name x px, .Name y py, .Name z pz] kt pt] (.Tuple [a, b, c] k2 pt2) env = pure (some [x, y, z]) := by
  obtain ⟨F, N, e1, e2, e3⟩ := swap_eq (env := env) (ts := [.Name x px, .Name y py, .Name z pz]) (vs := [a, b, c]) (kt := kt) (k2 := k2) (pt := pt) (pt2 := pt2)
  refine e3 (blockKind_fn hk) rfl rfl (by simp [e1 a ha, e1 b hb, e1 c hc]) [x, y, z] ?_ rfl ?_ (foldB_ok hf).1 (foldB_ok hf).2
  · have l : py.line = px.line := (beq_iff_eq.mp hl).symm
    have l2 : pz.line = px.line := (beq_iff_eq.mp hl2).symm
    simp [List.filterMap_cons, e2, Expr.pos, Env.kindOf, hx, hy, hz, l, l2]
  · simp [List.eraseDups, List.eraseDupsBy, List.eraseDupsBy.loop, hxy, hxz, hyz, beq_sym hxy, beq_sym hxz, beq_sym hyz]
/-! ### soundness -/
theorem Cg.kindX (g : Cg M G xc k E X W) : X.env.scope.kind = .function := by rw [g.sc]; exact g.kind
theorem Cg.two (g : Cg M G xc k E X W) {n i : Nat} {x : Str} (h : two M n E i x = true) : X.N[i]? = some x ∧ X.env.scope.names.lookup x = some .local := by
  obtain ⟨h1, h2⟩ := b2a h
  exact ⟨g.ix h1, by rw [g.sc]; exact localB_ok h2⟩
theorem Cg.var (g : Cg M G xc k E X W) {i : Nat} {x : Str} {p : Pos} (h : varB E i x = true) : PE X (.Name x p) (tVar i) := by
  obtain ⟨h, h3⟩ := b2a h
  obtain ⟨h1, h2⟩ := b2a h
  exact pe_var (g.ix h1) (g.vis h2) (okName_ok h3).1 (okName_ok h3).2
theorem ne_of {i j : Nat} (h : (!(i == j)) = true) : i ≠ j := fun e => by rw [e] at h; simp at h
theorem neS {x y : Str} (h : (!(x == y)) = true) : (x == y) = false := by
  cases q : x == y with
  | false => rfl
  | true => rw [q] at h; cases h
theorem par_ok (g : Cg M G xc k E X W) {n : Nat} {is : List Nat} {cs : List CE} {ts vs : List Expr} {kt k2 : Nat} {pt p2 pos : Pos} (h : parB M n E is cs ts vs = true) :
    PS X (.Assign [.Tuple ts kt pt] (.Tuple vs k2 p2) pos) (tMS X.K xc W (exec G (.par is cs))) := by
  have hE := fun c e => (chk_ok M G xc k n).1 E X W c e g
  unfold parB at h
  split at h
  · obtain ⟨h, h10⟩ := b2a h
    obtain ⟨h, h9⟩ := b2a h
    obtain ⟨h, h8⟩ := b2a h
    obtain ⟨h, h7⟩ := b2a h
    obtain ⟨h, h6⟩ := b2a h
    obtain ⟨h, h5⟩ := b2a h
    obtain ⟨h, h4⟩ := b2a h
    obtain ⟨h, h3⟩ := b2a h
    obtain ⟨h1, h2⟩ := b2a h
    obtain ⟨a1, a2⟩ := g.two h1
    obtain ⟨b1, b2⟩ := g.two h2
    exact s_par2 g.calm g.nd a1 b1 (ne_of h3) a2 b2 (g_cons (hE _ _ h9) (g_cons (hE _ _ h10) g_nil h7) h6) (swapped2 g.kindX a2 b2 (neS h4) h5 h6 h7 h8) rfl
  · obtain ⟨h, h18⟩ := b2a h
    obtain ⟨h, h17⟩ := b2a h
    obtain ⟨h, h16⟩ := b2a h
    obtain ⟨h, h15⟩ := b2a h
    obtain ⟨h, h14⟩ := b2a h
    obtain ⟨h, h13⟩ := b2a h
    obtain ⟨h, h12⟩ := b2a h
    obtain ⟨h, h11⟩ := b2a h
    obtain ⟨h, h10⟩ := b2a h
    obtain ⟨h, h9⟩ := b2a h
    obtain ⟨h, h8⟩ := b2a h
    obtain ⟨h, h7⟩ := b2a h
    obtain ⟨h, h6⟩ := b2a h
    obtain ⟨h, h5⟩ := b2a h
    obtain ⟨h, h4⟩ := b2a h
    obtain ⟨h, h3⟩ := b2a h
    obtain ⟨h1, h2⟩ := b2a h
    obtain ⟨a1, a2⟩ := g.two h1
    obtain ⟨b1, b2⟩ := g.two h2
    obtain ⟨c1, c2⟩ := g.two h3
    exact s_par3 g.calm g.nd a1 b1 c1 (ne_of h4) (ne_of h5) (ne_of h6) a2 b2 c2 (g_cons (hE _ _ h16) (g_cons (hE _ _ h17) (g_cons (hE _ _ h18) g_nil h14) h13) h12)
      (swapped3 g.kindX a2 b2 c2 (neS h7) (neS h8) (neS h9) h10 h11 h12 h13 h14 h15) rfl
  · cases h
theorem asg_ok (g : Cg M G xc k E X W) {n i : Nat} {c : CE} {x : Str} {p pos : Pos} {v : Expr} (h : asgB M n E i c x p v = true) : PS X (.Assign [.Name x p] v pos) (tMS X.K xc W (exec G (.asg i c))) := by
  have hE := fun c e => (chk_ok M G xc k n).1 E X W c e g
  obtain ⟨h, h4⟩ := b2a h
  obtain ⟨h, h3⟩ := b2a h
  obtain ⟨h1, h2⟩ := b2a h
  have hi := g.ix h1
  have hl := g.loc h2
  have hf := g.hf h3
  cases q : compSc v with
  | none =>
    rw [q] at h4
    exact s_asg g.nd hi hl (hE _ _ h4) (notComp_sw (by unfold notComp; rw [q]; rfl)) hf
  | some sp =>
    obtain ⟨s, vp⟩ := sp
    rw [q] at h4
    have hsw := fun l => sw_name (x := x) (p := p) (l := l) g.kindX q
    rw [g.sc] at hsw
    rcases Bool.or_eq_true_iff.mp h4 with h4 | h4
    · obtain ⟨q2, h4⟩ := b2a h4
      rw [q2] at hsw
      have hyl : X.env.scope.names.lookup x = some .local := by
        obtain ⟨q3, _⟩ := b2a q2
        obtain ⟨q4, _⟩ := b2a q3
        rw [g.sc]
        exact beq_iff_eq.mp q4
      unfold asgC at h4
      split at h4
      · split at h4
        · have o := comp_ok g (chk_ok M G xc k n).1 (chk_ok M G xc k n).2 h4
          refine PS.weak (ps_setLc g.calm g.nd hi hyl (hsw _) o.it o.bo o.tg o.cd o.el o.fs) fun D σ H z => ?_
          rw [o.ow]
          exact comp_rd o.sl (asg_rd z)
        · cases h4
      · cases h4
    · obtain ⟨q2, h4⟩ := b2a h4
      have q2 : swB E.sc x p.line s vp = false := by
        cases q3 : swB E.sc x p.line s vp with
        | false => rfl
        | true => rw [q3] at q2; cases q2
      rw [q2] at hsw
      exact s_asg g.nd hi hl (hE _ _ h4) (hsw _) hf
theorem sole_sw {e t : Expr} {l : Nat} {env : PySem.Env} (h : notComp e = true) : swapsWithSole [t] e l env = pure false := notComp_sw (t := some t) (l := l) (env := env) h
theorem notTup_sw {tg v : Expr} {env : PySem.Env} (h : notTup v = true) : swappedStores [tg] v env = pure none := by
  cases v <;> first | (cases tg <;> rfl) | cases h
theorem filter_short {N : Expr → Option Str} (hN : ∀ e, notName e = true → N e = none) : ∀ {ts : List Expr}, ts.any notName = true → (ts.filterMap N).length < ts.length
  | [], h => by cases h
  | t :: ts, h => by
    rw [List.filterMap_cons]
    cases q : notName t with
    | true =>
      rw [hN t q]
      exact Nat.lt_succ_of_le (List.length_filterMap_le _ _)
    | false =>
      rw [List.any_cons, q, Bool.false_or] at h
      have ih := filter_short hN h
      cases N t with
      | none => exact Nat.lt_succ_of_lt ih
      | some y => exact Nat.succ_lt_succ ih
theorem swap_none {ts vs : List Expr} {k k2 : Nat} {p p2 : Pos} {env : PySem.Env} (h : ts.any notName = true) : swappedStores [.Tuple ts k p] (.Tuple vs k2 p2) env = pure none := by
  unfold swappedStores
  dsimp only
  split
  · rfl
  · split
    · rfl
    · split
      · rfl
      · rename_i h3
        refine absurd ?_ h3
        rw [Bool.or_eq_true]
        exact .inl (bne_iff_ne.mpr (Nat.ne_of_lt (filter_short (fun e he => by cases e <;> first | rfl | cases he) h)))
theorem tup_sw {es : List Expr} {k : Nat} {p : Pos} {v : Expr} {env : PySem.Env} (h : (notTup v || es.any notName) = true) : swappedStores [.Tuple es k p] v env = pure none := by
  rcases Bool.or_eq_true_iff.mp h with h | h
  · exact notTup_sw h
  · cases v with
    | Tuple vs k2 p2 => exact swap_none h
    | _ => exact notTup_sw rfl
theorem assign_sub {o k : Expr} {p2 : Pos} {env : PySem.Env} (h : notSlice k = true) (v : Value) : assign (.Subscript o k p2) env v = (do
      let ov ← holding [v] (eval o env)
      let iv ← holding [v, ov] (eval k env)
      standAt p2
      holding [v, ov, iv] (setItem ov iv v)
      release [v, ov, iv] []) := by
  cases k <;> first | rfl | cases h
theorem few_ok {e : Expr} {cpos : Pos} {env : PySem.Env} (h : notStar e = true) : ((backTo cpos (starEach [e] env)).all (fun x => !x.1) && (backToKw cpos (keywordEach [] env)).all (fun x => x.1.isSome)
      && decide ([e].length + ([] : List Keyword).length + (if ([] : List Keyword).isEmpty then 0 else 1) < 30)) = true := by
  rw [starEach_plain h]
  rfl
theorem chkS_ok (M : Ck) (G : Gx) (xc : Nat → Option XCls) (k : Nat) (E : CkE) (X : Cx) (W : WX) (g : Cg M G xc k E X W) (po : PassesOwn (model X.prog X.w) X.A X.env X.xe) : ∀ n, (∀ c st, chkS M n E c st = true → PS X st (tMS X.K xc W (exec G c))) ∧
    (∀ cs sts, chkSs M n E cs sts = true → PSs X sts (tMS X.K xc W (execs G cs))) := by
  intro n
  induction n with
  | zero =>
    refine ⟨fun c e h => ?_, fun c e h => ?_⟩
    · rw [chkS.eq_def] at h; exact absurd h Bool.false_ne_true
    · rw [chkSs.eq_def] at h; exact absurd h Bool.false_ne_true
  | succ n ih =>
    obtain ⟨ihS, ihSs⟩ := ih
    have hE := fun c e => (chk_ok M G xc k n).1 E X W c e g
    have hT := fun c e => (chk_ok M G xc k n).2 E X W c e g
    have partS : ∀ c st, chkS M (n + 1) E c st = true → PS X st (tMS X.K xc W (exec G c)) := by
      intro c st h
      cases c with
      | pass =>
        rw [chkS.eq_def] at h; dsimp only at h; split at h
        · exact s_pass
        · cases h
      | never => exact s_never
      | expr c =>
        rw [chkS.eq_def] at h; dsimp only at h; split at h
        · obtain ⟨h1, h2⟩ := b2a h
          exact s_expr (hE _ _ h1) (notComp_sw h2)
        · cases h
      | asg i c =>
        rw [chkS.eq_def] at h; dsimp only at h; split at h
        · exact asg_ok g h
        · cases h
      | asgT t c =>
        rw [chkS.eq_def] at h; dsimp only at h; split at h
        · obtain ⟨h, h4⟩ := b2a h
          obtain ⟨h, h3⟩ := b2a h
          obtain ⟨h1, h2⟩ := b2a h
          exact s_asgT (hE _ _ h2) (chkG_ok g _ _ h1) (sole_sw h3) (tup_sw h4) rfl
        · cases h
      | par is cs =>
        rw [chkS.eq_def] at h; dsimp only at h; split at h
        · exact par_ok g h
        · cases h
      | aug i op c =>
        rw [chkS.eq_def] at h; dsimp only at h; split at h
        · obtain ⟨h, h6⟩ := b2a h
          obtain ⟨h, h5⟩ := b2a h
          obtain ⟨h, h4⟩ := b2a h
          obtain ⟨h, h3⟩ := b2a h
          obtain ⟨h1, h2⟩ := b2a h
          rw [← opEq_ok h2]
          exact s_aug h1 g.nd (g.ix h3) (g.loc h4) (hE _ _ h6) (g.hf h5)
        · cases h
      | setIx i ck c =>
        rw [chkS.eq_def] at h; dsimp only at h; split at h
        · obtain ⟨h, h5⟩ := b2a h
          obtain ⟨h, h4⟩ := b2a h
          obtain ⟨h, h3⟩ := b2a h
          obtain ⟨h1, h2⟩ := b2a h
          exact s_setIx (g.var h1) (hE _ _ h3) (hE _ _ h4) (sole_sw h5) rfl rfl (assign_sub h2)
        · cases h
      | app i c =>
        rw [chkS.eq_def] at h; dsimp only at h; split at h
        · obtain ⟨h, h5⟩ := b2a h
          obtain ⟨h, h4⟩ := b2a h
          obtain ⟨h, h3⟩ := b2a h
          obtain ⟨h1, h2⟩ := b2a h
          have e := of_decide_eq_true h2
          subst e
          exact s_app (g.var h1) (hE _ _ h5) h4 rfl h3 (few_ok h4) rfl
        · cases h
      | ext i c =>
        rw [chkS.eq_def] at h; dsimp only at h; split at h
        · obtain ⟨h, h5⟩ := b2a h
          obtain ⟨h, h4⟩ := b2a h
          obtain ⟨h, h3⟩ := b2a h
          obtain ⟨h1, h2⟩ := b2a h
          have e := of_decide_eq_true h2
          subst e
          exact s_ext (g.var h1) (hE _ _ h5) h4 rfl h3 (few_ok h4) rfl
        · cases h
      | ret c =>
        rw [chkS.eq_def] at h; dsimp only at h; split at h
        · rename_i e _
          by_cases hv : ∃ i, c = .var i
          · obtain ⟨i, rfl⟩ := hv
            dsimp only at h
            split at h
            · exact s_retV (g.var h)
            · cases h
          · have nv : ∀ i, c ≠ .var i := fun i e => hv ⟨i, e⟩
            have h : chkE M n E c e = true := by
              cases c with
              | var i => exact absurd rfl (nv i)
              | _ => exact h
            exact s_ret nv (hE _ _ h)
        · cases h
      | retN =>
        rw [chkS.eq_def] at h; dsimp only at h; split at h
        · exact s_retN
        · cases h
      | ite c a b =>
        rw [chkS.eq_def] at h; dsimp only at h; split at h
        · obtain ⟨h, h3⟩ := b2a h
          obtain ⟨h1, h2⟩ := b2a h
          exact s_ite (hT _ _ h1) (ihSs _ _ h2) (ihSs _ _ h3)
        · cases h
      | for_ cs kind its tg body =>
        rw [chkS.eq_def] at h; dsimp only at h; split at h
        · obtain ⟨h, h3⟩ := b2a h
          obtain ⟨h1, h2⟩ := b2a h
          exact s_for po g.calm (it_ok g hE h1).1 (chkG_ok g _ _ h2) (ihSs _ _ h3) (it_ok (tg := .List [] ⟨0, 0, 0, 0⟩) g hE h1).2
        · cases h
      | while_ c body =>
        rw [chkS.eq_def] at h; dsimp only at h; split at h
        · obtain ⟨h1, h2⟩ := b2a h
          exact s_while po (hT _ _ h1) (ihSs _ _ h2)
        · cases h
      | brk =>
        rw [chkS.eq_def] at h; dsimp only at h; split at h
        · exact s_brk
        · cases h
      | cont =>
        rw [chkS.eq_def] at h; dsimp only at h; split at h
        · exact s_cont
        · cases h
      | frz i => rw [chkS.eq_def] at h; exact absurd h Bool.false_ne_true
      | mv i => rw [chkS.eq_def] at h; exact absurd h Bool.false_ne_true
    refine ⟨partS, fun cs sts h => ?_⟩
    rw [chkSs.eq_def] at h
    dsimp only at h
    split at h
    · cases sts with
      | nil => exact ss_nil
      | cons _ _ => cases h
    · split at h
      · exact ss_frz (ihSs _ _ h)
      · exact ss_mv (ihSs _ _ h)
      · split at h
        · cases h
        · obtain ⟨h1, h2⟩ := b2a h
          exact ss_cons (ihS _ _ h1) (ihSs _ _ h2)
end
end Zw
set_option Elab.async false
set_option linter.all false
set_option maxRecDepth 100000
/-! Zw13: defs, the module, the law's end. -/
namespace Zw
open PySem PySem.Spec PyProof.Rows L2
/-- one def of the text beside its core -/
structure FnI where
  x : Str
  st : Stmt
  N : List Str
  f : Fn
def FnI.ps (i : FnI) : List Str := (defArgs i.st).args.map (·.arg)
def kindB (sc : Scope) : Bool := match sc.kind with
  | .function => true
  | _ => false
def nodupB : List Str → Bool
  | [] => true
  | x :: xs => !(xs.any fun y => decide (y = x)) && nodupB xs
theorem nodupB_ok : ∀ {xs : List Str}, nodupB xs = true → xs.Nodup
  | [], _ => List.nodup_nil
  | x :: xs, h => by
    obtain ⟨h1, h2⟩ := b2a (show (!(xs.any fun y => decide (y = x)) && nodupB xs) = true from h)
    refine List.nodup_cons.mpr ⟨fun hm => ?_, nodupB_ok h2⟩
    have : (xs.any fun y => decide (y = x)) = true := List.any_eq_true.mpr ⟨x, hm, by simp⟩
    rw [this] at h1
    cases h1
def scopeB (N ps : List Str) (sc : Scope) : Bool := kindB sc && !sc.isCoroutine && !sc.isGenerator && nodupB N && decide (N.take ps.length = ps) && (ps.all fun x => locB sc x) && (sc.names.all fun y => match y.2 with
  | .free => false
  | _ => true)
theorem scope_ok {N ps : List Str} {sc : Scope} (h : scopeB N ps sc = true) : FnScope N ps sc := by
  obtain ⟨h, h7⟩ := b2a h
  obtain ⟨h, h6⟩ := b2a h
  obtain ⟨h, h5⟩ := b2a h
  obtain ⟨h, h4⟩ := b2a h
  obtain ⟨h, h3⟩ := b2a h
  obtain ⟨h1, h2⟩ := b2a h
  refine ⟨?_, ?_, ?_, nodupB_ok h4, of_decide_eq_true h5, fun x hx => ?_, fun y hy e => ?_⟩
  · unfold kindB at h1
    split at h1
    · assumption
    · cases h1
  · cases q : sc.isCoroutine with
    | false => rfl
    | true => rw [q] at h2; cases h2
  · cases q : sc.isGenerator with
    | false => rfl
    | true => rw [q] at h3; cases h3
  · have := List.all_eq_true.mp h6 x hx
    unfold locB at this
    split at this
    · exact .inl (by assumption)
    · exact .inr (by assumption)
    · cases this
  · have := List.all_eq_true.mp h7 y hy
    rw [e] at this
    cases this
def fnB (M : Ck) (n : Nat) (i : FnI) : Bool := scopeB i.N i.ps (defScope i.st) && decide (i.ps.length = i.f.params) && decide (i.N.length = i.f.slots) && chkSs M n ⟨i.N, defScope i.st, fun _ => true⟩ i.f.body (defBody i.st)
section
variable {K : PySem.W.Frag} {F H : Hp} {μ : List Addr}
theorem BRs.get : ∀ {vs : List V} {bs : List B} {i : Nat} {b : B}, BRs K F μ H vs bs → bs[i]? = some b → ∃ v, vs[i]? = some v ∧ BRp K F μ H v b
  | _, _, _, _, .nil, e => by simp at e
  | _, _, 0, _, .cons h _, e => by simp at e; subst e; exact ⟨_, rfl, h⟩
  | _, _, i + 1, _, .cons _ r, e => by
    obtain ⟨v, h1, h2⟩ := BRs.get (i := i) r (by simpa using e)
    exact ⟨v, by simpa using h1, h2⟩
theorem BRp.par {v : V} {b : B} (h : BRp K F μ H v b) : BRp K F μ H v b.par := by
  cases b <;> exact h
theorem par_own {b : B} : ∀ d, b.par ≠ .own d := by intro d h; cases b <;> cases h
theorem enter_ok {f : Fn} {N : List Str} {vs : List V} {bs : List B} {S : Store} (hN : N.length = f.slots) (hl : bs.length = f.params) (r : Rel K F μ S H) (brs : BRs K F μ H vs bs) : SR K F μ H F μ S H (enter f bs) (L2.start N vs) := by
  have hv := brs.length
  have get : ∀ (i : Nat) (b : B), (enter f bs)[i]? = some (some b) → ∃ b0, bs[i]? = some b0 ∧ b = b0.par := fun i b e => by
    unfold enter at e
    by_cases l : i < bs.length
    · rw [List.getElem?_append_left (by simpa using l), List.getElem?_map] at e
      cases q : bs[i]? with
      | none => rw [q] at e; cases e
      | some b0 =>
        rw [q] at e
        cases e
        exact ⟨b0, rfl, rfl⟩
    · rw [List.getElem?_append_right (by simpa using l), List.getElem?_replicate] at e
      split at e <;> cases e
  refine ⟨r, ⟨?_, fun i b e => ?_, fun i j d d' a _ e _ _ => ?_⟩, Ext.refl _ _ _, ⟨[], by simp, fun a h => absurd h (by simp)⟩, fun i d a e _ => ?_⟩
  · unfold enter L2.start
    simp
    omega
  · obtain ⟨b0, e1, e2⟩ := get i b e
    obtain ⟨v, h1, h2⟩ := brs.get e1
    refine ⟨v, ?_, by rw [e2]; exact h2.par⟩
    unfold L2.start
    have l : i < vs.length := (List.getElem?_eq_some_iff.mp h1).1
    rw [List.getElem?_append_left (by simpa using l), List.getElem?_map, h1]
    rfl
  · obtain ⟨b0, _, e2⟩ := get i _ e
    exact absurd e2.symm (par_own d)
  · obtain ⟨b0, _, e2⟩ := get i _ e
    exact absurd e2.symm (par_own d)
theorem leave_rel {μ' ν : List Addr} {F' H' : Hp} {S S' : Store} (r : Rel K F μ S H) (r' : Rel K F' μ' S' H') (e : μ' = μ ++ ν) : Rel K F' μ (S'.take S.length) H' := by
  have := r'.cut S.length
  rw [e, ← r.len, List.take_left' rfl] at this
  rw [r.len] at this
  exact this
end
section
variable {M : Ck} {G : Gx} {xc : Nat → Option XCls} {P : Program} {w : World} {K : PySem.W.Frag} {mg : Str → Option Value} {base : Heap}
/-- THE RULE for a def -/
theorem fn_run {CX : CXT} {k n : Nat} {i : FnI} {a : Addr} {fd : FuncData} (FD : FunD K i.x i.x (defArgs i.st) (defBody i.st) (defScope i.st) [] [] a fd) (hc : fnB M n i = true) (st : Sta M G xc k P w K mg base)
    {A : Around} {outer : List PySem.Env} {s : Shared} {H : Hp} {args : Args} {us : List Value} {vs : List V} {F : Hp} {μ : List Addr} {S : Store} {bs : List B} {Q : VK} {E E' : XK} (hr : Room (k + 1) A) (hgd : A.guards = some []) (e0 : Env0 P w K mg base A outer s H)
    (hb : us.length = i.ps.length → BindsTo s fd args (i.ps.zip us)) (rv : Vals vs us) (rel : Rel K F μ S H) (brs : BRs K F μ H vs bs) (hok : okC K xc μ F H (runF G i.f bs S) Q E')
    (htk : ∀ cdv, Takes (cxOf CX P w K mg base i.N i.x (defScope i.st) a cdv A outer s H E) fun cls d _ H => E' cls d H) :
    codeAny (model P w) A (.call (.ref a) args) (CR CX outer P w H s Q E) s := by
  obtain ⟨hc, h4⟩ := b2a hc
  obtain ⟨hc, h3⟩ := b2a hc
  obtain ⟨h1, h2⟩ := b2a hc
  have SC := scope_ok h1
  have h2 := of_decide_eq_true h2
  have h3 := of_decide_eq_true h3
  unfold runF at hok
  have hl : bs.length = i.f.params := Decidable.byContradiction fun z => by rw [if_neg z] at hok; exact hok.elim
  rw [if_pos hl] at hok
  have hv : vs.length = i.ps.length := by rw [brs.length, hl, h2]
  have hu : us.length = i.ps.length := by rw [← rv.length]; exact hv
  have hb := hb hu
  obtain ⟨oc, od, dV, kV, doc, pm, an, cdv, ct, osl, rfl, lk, hcd, _, _⟩ := FD.ex
  refine LamX.run_ofS (N := i.N) (ps := i.ps) (vs := vs) lk hcd SC hr e0 hb rv hv fun hr' => ⟨tMS K xc (fun cls d _ H => E' cls d H) (execs G i.f.body), ?_, ?_⟩
  · have g : Cg M G xc k ⟨i.N, defScope i.st, fun _ => true⟩ (cxOf CX P w K mg base i.N i.x (defScope i.st) a cdv A outer s H E) (fun cls d _ H => E' cls d H) :=
      ⟨rfl, SC.nd, rfl, SC.kind, rfl, hr', hgd, htk cdv, fun _ _ => rfl, st⟩
    exact (chkS_ok M G xc k _ _ _ g (passes_of rfl) n).2 _ _ h4
  · refine ⟨F, μ, H, F, μ, S, enter i.f bs, enter_ok h3 hl rel brs, ?_⟩
    cases q : execs G i.f.body (enter i.f bs) S with
    | nx ρ' S' =>
      rw [q] at hok
      intro F' μ' H' σ' s'
      obtain ⟨ν, e, _⟩ := s'.pre
      exact hok F' H' .non s'.ext (leave_rel rel s'.rel e) .non trivial
    | rt b S' =>
      rw [q] at hok
      intro F' μ' H' v r' x' ⟨ν, e, hν⟩ bv fr hb
      refine hok F' H' v x' (leave_rel rel r' e) ?_ fr
      cases b with
      | t d => exact bv
      | own d =>
        obtain ⟨c, xs, ds, e1, e2, e3, e4, e5, e6⟩ := bv
        exact ⟨c, xs, ds, e1, e2, e3, e4, e5, fun z => e6 (by rw [e]; exact List.mem_append_left _ z)⟩
      | _ => cases hb
    | ex c p ρ' S' =>
      rw [q] at hok
      intro F' μ' H' σ' cls d s' xr
      obtain ⟨ν, e, _⟩ := s'.pre
      exact hok F' H' cls d s'.ext (leave_rel rel s'.rel e) xr
    | bk ρ' S' => rw [q] at hok; exact hok.elim
    | ct ρ' S' => rw [q] at hok; exact hok.elim
    | bad => rw [q] at hok; exact hok.elim
theorem fnC_ok {k n : Nat} {i : FnI} {a : Addr} {fd : FuncData} (FD : FunD K i.x i.x (defArgs i.st) (defBody i.st) (defScope i.st) [] [] a fd) (hc : fnB M n i = true) (st : Sta M G xc k P w K mg base)
    (hb : ∀ (s : Shared) (us : List Value), us.length = i.ps.length → BindsTo s fd ⟨us, []⟩ (i.ps.zip us)) : FnC P w K mg base xc (k + 1) a (runF G i.f) :=
  ⟨fun A outer s H us vs F μ S bs Q E hr hgd e0 rv rel brs hok => fn_run FD hc st hr hgd e0 (hb s us) rv rel brs hok fun cdv => takes_of rfl rfl rfl rfl⟩
end
/-! ### the module -/
structure Lw where
  ck : Ck
  gcs : List D
  fns : List FnI
def Lw.md (L : Lw) : Md := ⟨L.gcs, L.fns.map (·.f)⟩
def Lw.gx (L : Lw) (n : Nat) : Gx := ⟨L.md.call n, fun g => L.gcs[g]?⟩
/-- the check, all of it -/
def Lw.ok (L : Lw) (n : Nat) : Bool := (L.fns.all (fnB L.ck n)) && decide (L.fns.map (·.x) = L.ck.fnm)
/-- parameters are bound one by one -/
def Lw.Binds (L : Lw) : Prop := ∀ i ∈ L.fns, ∀ (kV doc pm : Value) (an : Option Addr) (cdv ct : Value) (us : List Value), us.length = i.ps.length → bindArgs (PySem.W.fnOf i.x i.x (defArgs i.st) (defBody i.st) (defScope i.st) .none kV doc pm an cdv ct) ⟨us, []⟩ = pure (i.ps.zip us)
/-- what the head tells -/
structure HeadOk (L : Lw) (K : PySem.W.Frag) (mg : Str → Option Value) : Prop where
  fns : ∀ i ∈ L.fns, ∃ a fd, mg i.x = some (.ref a) ∧ FunD K i.x i.x (defArgs i.st) (defBody i.st) (defScope i.st) [] [] a fd
  gcs : ∀ (g : Nat) (x : Str) (d : D), L.ck.gcn[g]? = some x → L.gcs[g]? = some d → ∃ v u, mg x = some u ∧ RelV v u ∧ ∀ F, Rp K F v d
  free : ∀ x ∈ L.ck.free, mg x = none
  gcd : L.ck.gcd = true → mg "gcd" = some (.builtin "math.gcd")
section
variable {L : Lw} {P : Program} {w : World} {K : PySem.W.Frag} {mg : Str → Option Value} {base : Heap}
theorem sta_ok {m : Nat} (hc : L.ok m = true) (hB : L.Binds) (hd : HeadOk L K mg) (xc : Nat → Option XCls) : ∀ n, Sta L.ck (L.gx n) xc n P w K mg base := by
  obtain ⟨h1, h2⟩ := b2a hc
  have h2 := of_decide_eq_true h2
  intro n
  induction n with
  | zero =>
    refine ⟨fun f x e => ?_, hd.gcs, hd.free, hd.gcd⟩
    rw [← h2, List.getElem?_map] at e
    cases q : L.fns[f]? with
    | none => rw [q] at e; cases e
    | some i =>
      rw [q] at e
      cases e
      obtain ⟨a, fd, e1, FD⟩ := hd.fns i (List.mem_of_getElem? q)
      exact ⟨a, e1, FD.kp, ⟨fun A outer s H us vs F μ S bs Q E hr hgd e0 rv rel brs hok => hok.elim⟩⟩
  | succ n ih =>
    refine ⟨fun f x e => ?_, hd.gcs, hd.free, hd.gcd⟩
    rw [← h2, List.getElem?_map] at e
    cases q : L.fns[f]? with
    | none => rw [q] at e; cases e
    | some i =>
      rw [q] at e
      cases e
      obtain ⟨a, fd, e1, FD⟩ := hd.fns i (List.mem_of_getElem? q)
      refine ⟨a, e1, FD.kp, ?_⟩
      have hb := fun s us hl => FunD.bindsA FD (hB i (List.mem_of_getElem? q)) s us hl
      have c := fnC_ok FD (List.all_eq_true.mp h1 i (List.mem_of_getElem? q)) ih hb
      have e : (L.gx (n + 1)).fn f = runF (L.gx n) i.f := by
        funext args s
        show L.md.call (n + 1) f args s = _
        rw [Md.call]
        show (match (L.fns.map (·.f))[f]? with
          | some f => runF (L.gx n) f args s
          | none => .bad) = _
        rw [List.getElem?_map, q]
        rfl
      rw [e]
      exact c
end
end Zw
set_option Elab.async false
set_option linter.all false
set_option maxRecDepth 100000
/-! Zw14: the head's facts, the law's end. -/
namespace Zw
open PySem PySem.Spec PyProof.Rows L2
/-! ### the module's constants -/
mutual
def dIn (K : PySem.W.Frag) : D → Value → Bool
  | .non, .none => true
  | .bl b, .bool c => b == c
  | .int i, .int j _ => decide (i = j)
  | .str s, .str z _ => decide (s = z)
  | .tup ds, .ref a => (match K.lookup a with
    | some ⟨.type c, _, .seq its _, _⟩ => decide (c = "tuple") && decide (its.size ≤ sizeLine) && dsIn K ds its.toList
    | _ => false)
  | _, _ => false
def dsIn (K : PySem.W.Frag) : List D → List Value → Bool
  | [], [] => true
  | d :: ds, u :: us => dIn K d u && dsIn K ds us
  | _, _ => false
end
mutual
theorem dIn_ok {K : PySem.W.Frag} : ∀ (d : D) (u : Value), dIn K d u = true → ∃ v, RelV v u ∧ ∀ F, Rp K F v d
  | .non, u, h => by
    cases u with
    | none => exact ⟨.non, rfl, fun _ => .non⟩
    | _ => simp [dIn] at h
  | .bl b, u, h => by
    cases u with
    | bool c => simp [dIn] at h; exact ⟨.bl b, by rw [h]; rfl, fun _ => .bl b⟩
    | _ => simp [dIn] at h
  | .int i, u, h => by
    cases u with
    | int j t => simp [dIn] at h; exact ⟨.int i, ⟨t, by rw [h]⟩, fun _ => .int i⟩
    | _ => simp [dIn] at h
  | .str i, u, h => by
    cases u with
    | str j t => simp [dIn] at h; exact ⟨.str i, ⟨t, by rw [h]⟩, fun _ => .str i⟩
    | _ => simp [dIn] at h
  | .tup ds, u, h => by
    cases u with
    | ref a =>
      rw [dIn] at h
      cases q : K.lookup a with
      | none => rw [q] at h; cases h
      | some o =>
        obtain ⟨oc, od, dt, osl⟩ := o
        rw [q] at h
        cases oc with
        | type c =>
          cases dt with
          | seq its n =>
            have h : (decide (c = "tuple") && decide (its.size ≤ sizeLine) && dsIn K ds its.toList) = true := h
            obtain ⟨h, h3⟩ := b2a h
            obtain ⟨h1, h2⟩ := b2a h
            obtain ⟨vs, r1, r2⟩ := dsIn_ok ds its.toList h3
            exact ⟨.ref a, rfl, fun F => .tup (.inr ⟨_, its, n, q, congrArg Value.type (of_decide_eq_true h1), rfl, of_decide_eq_true h2, r1⟩) (r2 F)⟩
          | _ => cases h
        | _ => cases h
    | _ => simp [dIn] at h
  | .lst ds, u, h => by cases u <;> simp [dIn] at h
  | .ins c ds, u, h => by cases u <;> simp [dIn] at h
theorem dsIn_ok {K : PySem.W.Frag} : ∀ (ds : List D) (us : List Value), dsIn K ds us = true → ∃ vs, Vals vs us ∧ ∀ F, RpL K F vs ds
  | [], us, h => by
    cases us with
    | nil => exact ⟨[], .nil, fun _ => .nil⟩
    | cons _ _ => simp [dsIn] at h
  | d :: ds, us, h => by
    cases us with
    | nil => simp [dsIn] at h
    | cons u us =>
      rw [dsIn] at h
      obtain ⟨h1, h2⟩ := b2a h
      obtain ⟨v, r1, r2⟩ := dIn_ok d u h1
      obtain ⟨vs, s1, s2⟩ := dsIn_ok ds us h2
      exact ⟨v :: vs, .cons r1 s1, fun F => .cons (r2 F) (s2 F)⟩
end
/-! ### the Hook -/
def FnI.defD (i : FnI) : He.DefD := ⟨(i.x, none), i.x, i.x, defArgs i.st, defBody i.st, defScope i.st, [], []⟩
def Lw.fa (L : Lw) : List He.Fa := L.fns.map (fun i => He.Fa.glo i.x) ++ L.ck.free.map He.Fa.free
def Lw.fn (L : Lw) : List He.DefD := L.fns.map FnI.defD
def Lw.more (L : Lw) (K : PySem.W.Frag) : Bool := ((L.ck.gcn.zip L.gcs).all fun p => match PySem.W.nsIn K mainGlobals p.1 with
  | some (some u) => dIn K p.2 u
  | _ => false) && (!L.ck.gcd || match PySem.W.nsIn K mainGlobals "gcd" with
  | some (some (.builtin id)) => decide (id = "math.gcd")
  | _ => false)
def Lw.obsG (L : Lw) (K : PySem.W.Frag) : Bool × He.AlD := (L.more K, He.obsD L.fa L.fn K)
def Lw.hook (L : Lw) (n : Nat) : PySem.W.Hook where
  α := Bool × He.AlD
  obs := fun s => L.obsG (He.frG s.heap.get? (He.asD s.heap.get? n))
  val := fun _ => (true, He.valD L.fn)
  says := fun _ h => ∃ K : PySem.W.Frag, K.In h ∧ L.more K = true ∧ He.SaysD L.fa L.fn K
  of := fun _ _ e => ⟨_, He.frG_in, congrArg (fun z : Bool × He.AlD => z.1) e, congrArg (fun z : Bool × He.AlD => z.2) e⟩
  keeps := fun _ _ _ ⟨K, hK, c⟩ k => ⟨K, PySem.W.Frag.In.keeps hK k, c⟩
def Lw.ob (L : Lw) (n : Nat) (s : PySem.W.SharedT) : Bool × He.AlD := L.obsG (He.frG (HandSHeadRun.getT s) (He.asD (HandSHeadRun.getT s) n))
theorem Lw.ob_eq (L : Lw) (n : Nat) (s : PySem.W.SharedT) : L.ob n s = (L.hook n).obs s.abs := by
  have e : HandSHeadRun.getT s = s.abs.heap.get? := funext (HandSHeadRun.getT_eq s)
  unfold Lw.ob
  rw [e]
  rfl
theorem head_ok {L : Lw} {K : PySem.W.Frag} {h : Heap} {mg : Str → Option Value} (X : K.In h) (G : h.Ns mainGlobals mg) (m : L.more K = true) (c : He.SaysD L.fa L.fn K) : HeadOk L K mg := by
  obtain ⟨m1, m2⟩ := b2a m
  have facts : ∀ f ∈ L.fa, f.ok K = true := fun f hf => by
    obtain ⟨i, hi⟩ := List.mem_iff_getElem?.mp hf
    exact c.fact i hi
  refine ⟨fun i hi => ?_, fun g x d e1 e2 => ?_, fun x hx => ?_, fun hg => ?_⟩
  · obtain ⟨j, hj⟩ := List.mem_iff_getElem?.mp hi
    obtain ⟨fd, F⟩ := c.def_ j (d := i.defD) (by
      unfold Lw.fn
      rw [List.getElem?_map, hj]
      rfl)
    exact ⟨_, fd, He.glo_ok X G (facts (.glo i.x) (List.mem_append_left _ (List.mem_map_of_mem (f := fun i => He.Fa.glo i.x) hi))), F⟩
  · have hm : (x, d) ∈ L.ck.gcn.zip L.gcs := List.mem_of_getElem? (i := g) (by rw [List.getElem?_zip_eq_some]; exact ⟨e1, e2⟩)
    have := List.all_eq_true.mp m1 _ hm
    cases q : PySem.W.nsIn K mainGlobals x with
    | none => simp [q] at this
    | some o =>
      cases o with
      | none => simp [q] at this
      | some u =>
        simp only [q] at this
        obtain ⟨v, r1, r2⟩ := dIn_ok d u this
        exact ⟨v, u, PySem.W.mg_of X G q, r1, r2⟩
  · exact He.free_ok X G (facts (.free x) (List.mem_append_right _ (List.mem_map_of_mem (f := He.Fa.free) hx)))
  · rw [hg] at m2
    have m2 : (match PySem.W.nsIn K mainGlobals "gcd" with
      | some (some (.builtin id)) => decide (id = "math.gcd")
      | _ => false) = true := m2
    split at m2
    · rename_i id q
      rw [of_decide_eq_true m2] at q
      exact PySem.W.mg_of X G q
    · cases m2
/-! ### the call of the law -/
section
variable {P : Program} {w : World} {K : PySem.W.Frag} {mg mb : Str → Option Value} {fa a : Addr} {s₁ : Shared} {vs : List Value} {ns : List Int}
/-- the script alone is tracked, unless it is one of the module's own objects -/
def scH (K : PySem.W.Frag) (a : Addr) (vs : List Value) (ns : List Int) : Hp := fun b => match decide (b = a), K.lookup a with
  | true, none => some (.frz { cls := .type "list", data := .seq vs.toArray } (.lst (ns.map V.int)))
  | _, _ => none
theorem scH_some {b : Addr} {u : HO} (h : scH K a vs ns b = some u) : b = a ∧ K.lookup a = none ∧ u = .frz { cls := .type "list", data := .seq vs.toArray } (.lst (ns.map V.int)) := by
  unfold scH at h
  split at h
  · rename_i e1 e2
    cases h
    exact ⟨of_decide_eq_true e1, e2, rfl⟩
  · cases h
theorem law_callZ (KX : K.In s₁.heap) (hns : s₁.heap.Ns mainGlobals mg) (hb : s₁.heap.Ns builtinsNs mb) (hbb : ∀ x : Str, x ≠ "__name__" → mb x = bootBuiltins x) (hlim : s₁.heap.NoLimit) (hg : s₁.gens = #[])
    (ha : s₁.heap.get? a = some { cls := .type "list", data := .seq vs.toArray }) (hi : IntsAre vs ns) (hl : ns.length ≤ sizeLine)
    (run : ∀ (base : Heap) (H : Hp), Env0 P w K mg base callerA [] s₁ H → ScAt K [] H a (ns.map V.int) →
      codeAny (model P w) callerA (.call (.ref fa) ⟨[.ref a], []⟩) (CR CX0 [] P w H s₁ (fun v _ => v = .bl true) fun _ _ _ => False) s₁) :
    codeAny (model P w) callerA (.call (.ref fa) ⟨[.ref a], []⟩) (fun r s' => r = .ok (.ret (.bool true)) ∧ OldK s₁.heap s'.heap ∧ s'.os = s₁.os ∧ AllBare s'.gens) s₁ := by
  have rv := vals_ints hi
  have hlen := hi.length
  have up : ∀ {b : Addr} {o : Obj}, s₁.heap.get? b = some o → (b = a → K.lookup a ≠ none) → (hidT s₁.heap (scH K a vs ns)).get? b = some o := fun {b o} e n => hidT_get e (by
    cases q : scH K a vs ns b with
    | none => rfl
    | some u => exact absurd (scH_some q).2.1 (n (scH_some q).1))
  have nsUp : ∀ {b : Addr} {m : Str → Option Value}, s₁.heap.Ns b m → (hidT s₁.heap (scH K a vs ns)).Ns b m := fun {b m} ⟨o, es, ep, e, d, r⟩ => ⟨o, es, ep, up e (fun z => by
    subst z
    rw [ha] at e
    cases e
    have d' : Data.seq vs.toArray _ = Data.dict es ep := d
    cases d'), d, r⟩
  have kUp : K.In (hidT s₁.heap (scH K a vs ns)) := fun b o e => up (KX b o e) (fun z => by
    subst z
    rw [e]
    intro z
    cases z)
  have hok : HOk P w (scH K a vs ns) s₁.heap := fun b u z => by
    obtain ⟨e1, _, e3⟩ := scH_some z
    subst e1 e3
    exact ⟨ha, by rw [List.length_map]; exact hl, vs, _, rv, ha⟩
  have e0 : Env0 P w K mg (hidT s₁.heap (scH K a vs ns)) callerA [] s₁ (scH K a vs ns) :=
    ⟨rfl, ⟨kUp, nsUp hns, ⟨mb, nsUp hb, hbb⟩, let ⟨mc, h1, h2⟩ := hlim; ⟨mc, nsUp h1, h2⟩⟩, fun b o e => of_hidT e, Nat.le_of_eq (hidT_size _ _), trivial, fun b hb => absurd (show b ∈ ([] : List Addr) from hb) (by simp), hok, .of_eq hg⟩
  have sc : ScAt K [] (scH K a vs ns) a (ns.map V.int) := by
    cases hk : K.lookup a with
    | some o =>
      have e := KX a o hk
      rw [ha] at e
      cases e
      exact .inr ⟨_, vs.toArray, _, hk, rfl, rfl, rfl, by rw [List.size_toArray, hlen]; exact hl, by simpa using rv⟩
    | none => exact .inl ⟨_, by unfold scH; rw [hk, decide_eq_true rfl], by simp⟩
  refine codeAny_mono (run _ _ e0 sc) fun r s' h => ?_
  cases r with
  | error e => exact False.elim h
  | ok fl =>
    cases fl with
    | next => exact False.elim h
    | brk => exact False.elim h
    | cont => exact False.elim h
    | ret u =>
      obtain ⟨v, H', os, bare, un, hok', r', q⟩ := h
      have q' : v = .bl true := q
      subst q'
      obtain rfl : u = Value.bool true := r'
      refine ⟨rfl, OldK.of_keep fun b o e => ?_, os, bare⟩
      cases q : scH K a vs ns b with
      | none => exact un.keep b o e q (by intro z; exact absurd (show b ∈ ([] : List Addr) from z) (by simp)) (by simp)
      | some u =>
        obtain ⟨e1, _, e3⟩ := scH_some q
        subst e1 e3
        rw [ha] at e
        cases e
        exact (hok' _ _ (un.frzs _ _ _ q)).1
theorem rpl_of_ints {F : Hp} : ∀ ns : List Int, RpL K F (ns.map V.int) (ns.map D.int)
  | [] => .nil
  | n :: ns => .cons (.int n) (rpl_of_ints ns)
end
theorem rel_nil (K : PySem.W.Frag) (H : Hp) : Rel K (fun _ => none) [] [] H := by
  refine ⟨fun b o e => ?_, rfl, List.nodup_nil, fun k b xs e _ => ?_, fun b hb => ?_⟩
  · cases e
  · simp at e
  · simp at hb
/-- THE END: a law by its core -/
theorem law_end {l : PySem.W.OpenLaw} {L : Lw} {q : Program} {loose : List Str} {XP : (Str → Option Value) → Heap → Prop} {d : DefRec} {m k j n nn : Nat} {i : FnI} (hn : l.most = some n) (hn2 : n ≤ sizeLine) (hdf : d.params.defaults = []) (hc : L.ok m = true) (hB : L.Binds) (hr : Room (k + 1) callerA)
    (hj : L.fns[j]? = some i) (hd : d.name = i.x)
    (main : ∀ ns : List Int, ns.length ≤ n → (∀ x ∈ ns, Builtin.Int.intBits x ≤ 1048576) → L.md.call (k + 1) j [.sc (.lst (ns.map D.int))] [] = .ok (.t (.bl true)) []) :
    PySem.W.WalkO q loose XP (L.hook nn).says l.row.toRowW d [] (fun f vs => PySem.call f vs) := by
  refine Att.attach_callB hn hdf fun w s₀ s₁ mg mb fa o pm cd doc a vs ns G Y ho hd' hcd hmg hobj hints hlen hbits hg => ?_
  obtain ⟨K, KX, Y1, Y2⟩ := Y
  have H := head_ok KX G.T.g Y1 Y2
  obtain ⟨a', fd, e1, FD⟩ := H.fns i (List.mem_of_getElem? hj)
  rw [hd, e1] at hmg
  cases hmg
  obtain ⟨h1, h2⟩ := b2a hc
  refine law_callZ KX G.T.g G.T.b G.T.builtins G.T.nolimit hg hobj hints (Nat.le_trans hlen hn2) fun base Hp0 e0 sc => ?_
  have st := sta_ok (P := l.prog) (w := w) (base := base) hc hB H (fun _ => none) k
  have hm := main ns hlen hbits
  have e : L.md.call (k + 1) j [.sc (.lst (ns.map D.int))] [] = runF (L.gx k) i.f [.sc (.lst (ns.map D.int))] [] := by
    rw [Md.call]
    show (match (L.fns.map (·.f))[j]? with
      | some f => runF (L.gx k) f _ _
      | none => .bad) = _
    rw [List.getElem?_map, hj]
    rfl
  rw [e] at hm
  refine fn_run (xc := fun _ => none) (vs := [.ref a]) (F := fun _ => none) (μ := []) (S := []) (bs := [.sc (.lst (ns.map D.int))]) (E' := fun _ _ _ => False) FD (List.all_eq_true.mp h1 i (List.mem_of_getElem? hj)) st hr rfl e0
    (fun hu => FunD.bindsA FD (hB i (List.mem_of_getElem? hj)) s₁ _ hu) (.cons rfl .nil) (rel_nil K _)
    (.cons ⟨a, ns.map V.int, ns.map D.int, rfl, rfl, sc, rpl_of_ints ns⟩ .nil) ?_ fun cdv => fun u s' ⟨_, _, _, _, _, _, _, _, _, _, _, _, _, _, _, _, z⟩ => z.elim
  rw [hm]
  intro F' H' v x r bv fr
  exact rp_bl bv
end Zw
set_option linter.all false
set_option maxRecDepth 100000
/-! Zp0: plain lemmas about the core's values: what repr and == may be asked of; calls. -/
namespace Zw
open PySem
/-! ### sizes -/
mutual
/-- no instance within, ints of at most 1900 bits, good texts -/
def D.Fine : D → Prop
  | .non => True
  | .bl _ => True
  | .int i => i.natAbs < 2 ^ 1900
  | .str s => PyData.strOk s = true
  | .tup xs => D.Fines xs
  | .lst xs => D.Fines xs
  | .ins _ _ => False
def D.Fines : List D → Prop
  | [] => True
  | x :: xs => x.Fine ∧ D.Fines xs
end
mutual
/-- no shorter than the value's text -/
def D.wt : D → Nat
  | .non => 4
  | .bl _ => 5
  | .int _ => 1921
  | .str s => 10 * s.length + 2
  | .tup xs => 3 + D.wts xs
  | .lst xs => 3 + D.wts xs
  | .ins _ _ => 0
def D.wts : List D → Nat
  | [] => 0
  | x :: xs => x.wt + 2 + D.wts xs
end
mutual
def D.dep : D → Nat
  | .tup xs => D.deps xs + 1
  | .lst xs => D.deps xs + 1
  | _ => 0
def D.deps : List D → Nat
  | [] => 0
  | x :: xs => max x.dep (D.deps xs)
end
mutual
theorem fine_plain : ∀ (d : D), d.Fine → d.plain = true
  | .non, _ => rfl
  | .bl _, _ => rfl
  | .int _, _ => rfl
  | .str _, _ => rfl
  | .tup xs, h => by rw [D.plain]; exact fines_plain xs (by rw [D.Fine] at h; exact h)
  | .lst xs, h => by rw [D.plain]; exact fines_plain xs (by rw [D.Fine] at h; exact h)
  | .ins _ _, h => by rw [D.Fine] at h; exact h.elim
theorem fines_plain : ∀ (xs : List D), D.Fines xs → D.plains xs = true
  | [], _ => rfl
  | x :: xs, h => by
    rw [D.Fines] at h
    rw [D.plains, fine_plain x h.1, fines_plain xs h.2]
    rfl
end
mutual
theorem fine_lay : ∀ (d : D), d.Fine → d.py.canLay0 = true
  | .non, _ => rfl
  | .bl _, _ => rfl
  | .int _, _ => rfl
  | .str s, h => by rw [D.Fine] at h; rw [D.py, PyData.canLay0]; exact h
  | .tup xs, h => by rw [D.py, PyData.canLay0]; exact fines_lay xs (by rw [D.Fine] at h; exact h)
  | .lst xs, h => by rw [D.py, PyData.canLay0]; exact fines_lay xs (by rw [D.Fine] at h; exact h)
  | .ins _ _, h => by rw [D.Fine] at h; exact h.elim
theorem fines_lay : ∀ (xs : List D), D.Fines xs → PyData.canLayAll0 (D.pys xs) = true
  | [], _ => rfl
  | x :: xs, h => by
    rw [D.Fines] at h
    rw [D.pys, PyData.canLayAll0, fine_lay x h.1, fines_lay xs h.2]
    rfl
end
theorem log_small {n k : Nat} (hk : 0 < k) (h : n < 2 ^ k) : n.log2 < k := by
  by_cases e : n = 0
  · subst e; simpa using hk
  · exact (Nat.log2_lt e).mpr h
mutual
theorem fine_showable : ∀ (d : D), d.Fine → d.py.showable = true
  | .non, _ => rfl
  | .bl _, _ => rfl
  | .int i, h => by
    rw [D.Fine] at h
    rw [D.py, PyData.showable]
    exact decide_eq_true (Nat.lt_trans (log_small (k := 1900) (by decide) h) (by decide))
  | .str s, h => rfl
  | .tup xs, h => by rw [D.py, PyData.showable]; exact fines_showable xs (by rw [D.Fine] at h; exact h)
  | .lst xs, h => by rw [D.py, PyData.showable]; exact fines_showable xs (by rw [D.Fine] at h; exact h)
  | .ins _ _, h => by rw [D.Fine] at h; exact h.elim
theorem fines_showable : ∀ (xs : List D), D.Fines xs → PyData.showableAll (D.pys xs) = true
  | [], _ => rfl
  | x :: xs, h => by
    rw [D.Fines] at h
    rw [D.pys, PyData.showableAll, fine_showable x h.1, fines_showable xs h.2]
    rfl
end
mutual
theorem dep_eq : ∀ (d : D), d.py.depth = d.dep
  | .non => rfl
  | .bl _ => rfl
  | .int _ => rfl
  | .str _ => rfl
  | .tup xs => by rw [D.py, PyData.depth, D.dep, deps_eq xs]
  | .lst xs => by rw [D.py, PyData.depth, D.dep, deps_eq xs]
  | .ins _ _ => rfl
theorem deps_eq : ∀ (xs : List D), PyData.depthAll (D.pys xs) = D.deps xs
  | [] => rfl
  | x :: xs => by rw [D.pys, PyData.depthAll, D.deps, dep_eq x, deps_eq xs]
end
theorem eqOk_of {a b : D} (ha : a.Fine) (hb : b.Fine) (da : a.dep ≤ 64) (db : b.dep ≤ 64) : eqOk a b = true := by
  unfold eqOk SeqAt.shaped
  rw [fine_plain a ha, fine_plain b hb, fine_lay a ha, fine_lay b hb, dep_eq, dep_eq, decide_eq_true da, decide_eq_true db]
  simp
theorem textFrom_le : ∀ (ts : List Str) (k : Nat) (acc : Str), (textFrom k acc ts).length ≤ acc.length + (ts.map fun t => t.length + 2).sum
  | [], _, _ => Nat.le_refl _
  | t :: ts, k, acc => by
    rw [textFrom]
    refine Nat.le_trans (textFrom_le ts _ _) ?_
    rw [strLen_append, strLen_append, List.map_cons, List.sum_cons]
    have : (Str.ofString (if k > 0 then ", " else "")).length ≤ 2 := by
      split <;> decide
    omega
theorem listText_le (ts : List Str) : (listText ts).length ≤ 2 + (ts.map fun t => t.length + 2).sum := by
  unfold listText
  rw [strLen_append]
  have h1 := textFrom_le ts 0 "["
  have h2 : ("[" : Str).length = 1 := rfl
  have h3 : ("]" : Str).length = 1 := rfl
  omega
theorem tupleText_le (ts : List Str) : (tupleText ts).length ≤ 3 + (ts.map fun t => t.length + 2).sum := by
  unfold tupleText
  rw [strLen_append, strLen_append]
  have h1 : (Str.join ", " ts).length ≤ (ts.map fun t => t.length + 2).sum := by
    by_cases e : ts = []
    · subst e; decide
    · have := join_length_add ts e
      unfold piled at this
      omega
  have h2 : ("(" : Str).length = 1 := rfl
  have h3 : (Str.ofString (if ts.length == 1 then ",)" else ")")).length ≤ 2 := by split <;> decide
  omega
mutual
theorem shown_le : ∀ (d : D), d.Fine → d.py.shown.length ≤ d.wt
  | .non, _ => by decide
  | .bl b, _ => by cases b <;> decide
  | .int i, h => by
    rw [D.Fine] at h
    rw [D.py, PyData.shown, D.wt]
    have := int_text_length_le (a := i) (k := 1900) (by decide) (log_small (by decide) h)
    show (Str.ofString (toString i)).length ≤ 1921
    rw [Str.ofString_eq_toList]
    show ((toString i).toList.map Char.toNat).toArray.size ≤ 1921
    simp only [List.size_toArray, List.length_map, String.length_toList]
    omega
  | .str s, h => by
    rw [D.Fine] at h
    rw [D.py, PyData.shown, D.wt]
    refine StrLaws.reprText_len s fun c hc => ?_
    have h2 : s.cps.all (· < 0x110000) = true := h
    rw [← Array.all_toList] at h2
    have := List.all_eq_true.mp h2 c hc
    have := of_decide_eq_true this
    omega
  | .tup xs, h => by
    rw [D.Fine] at h
    rw [D.py, PyData.shown, D.wt]
    have := tupleText_le (PyData.shownAll (D.pys xs))
    have := showns_le xs h
    omega
  | .lst xs, h => by
    rw [D.Fine] at h
    rw [D.py, PyData.shown, D.wt]
    have := listText_le (PyData.shownAll (D.pys xs))
    have := showns_le xs h
    omega
  | .ins _ _, h => by rw [D.Fine] at h; exact h.elim
theorem showns_le : ∀ (xs : List D), D.Fines xs → ((PyData.shownAll (D.pys xs)).map fun t => t.length + 2).sum ≤ D.wts xs
  | [], _ => Nat.le_refl _
  | x :: xs, h => by
    rw [D.Fines] at h
    rw [D.pys, PyData.shownAll, List.map_cons, List.sum_cons, D.wts]
    have := shown_le x h.1
    have := showns_le xs h.2
    omega
end
theorem reprOk_of {d : D} (h : d.Fine) (hw : d.wt ≤ line) (hd : d.dep ≤ 64) : reprOk d = true := by
  unfold reprOk
  rw [fine_plain d h, fine_showable d h, dep_eq, decide_eq_true hd, decide_eq_true (Nat.le_trans (shown_le d h) hw)]
  rfl
/-! ### equality -/
theorem eqB_int (i j : Int) : eqB (.int i) (.int j) = (i == j) := by unfold eqB; rw [D.py, D.py, PyData.eqv]
theorem eqB_str (i j : Str) : eqB (.str i) (.str j) = (i == j) := by unfold eqB; rw [D.py, D.py, PyData.eqv]
end Zw
set_option linter.all false
set_option maxRecDepth 100000
/-! Zp1: plain lemmas: calls, products, walks. -/
namespace Zw
open PySem
theorem cs_t1 {F : List B → Store → R B} {a r : D} (h : F [.t a] [] = .ok (.t r) []) (s : Store) : callS F [.t a] s = .ok (.t r) s := by
  simp [callS, List.filterMap_cons, B.ref?, getAll, renum, h, B.give, putAll]
theorem cs_t2 {F : List B → Store → R B} {a b r : D} (h : F [.t a, .t b] [] = .ok (.t r) []) (s : Store) : callS F [.t a, .t b] s = .ok (.t r) s := by
  simp [callS, List.filterMap_cons, B.ref?, getAll, renum, h, B.give, putAll]
theorem cs_t3 {F : List B → Store → R B} {a b c r : D} (h : F [.t a, .t b, .t c] [] = .ok (.t r) []) (s : Store) : callS F [.t a, .t b, .t c] s = .ok (.t r) s := by
  simp [callS, List.filterMap_cons, B.ref?, getAll, renum, h, B.give, putAll]
theorem cs_r1 {F : List B → Store → R B} {r : D} {o o' : O} (h : F [.r 0] [o] = .ok (.t r) [o']) : callS F [.r 0] [o] = .ok (.t r) [o'] := by
  simp [callS, List.filterMap_cons, B.ref?, getAll, renum, h, B.give, putAll]
theorem cs_r2 {F : List B → Store → R B} {a r : D} {o o' : O} (h : F [.r 0, .t a] [o] = .ok (.t r) [o']) : callS F [.r 0, .t a] [o] = .ok (.t r) [o'] := by
  simp [callS, List.filterMap_cons, B.ref?, getAll, renum, h, B.give, putAll]
theorem mulOk_of {i j : Int} (hi : i.natAbs < 2 ^ 4000) (hj : j.natAbs < 2 ^ 4000) : mulOk i j = true := by
  unfold mulOk
  have h1 := log_small (k := 4000) (by decide) hi
  have h2 := log_small (k := 4000) (by decide) hj
  exact decide_eq_true (by omega)
/-- a comprehension whose turns answer by g -/
theorem compL_map {f : D → Store → R (Option D)} {g : D → Option D} : ∀ (xs acc : List D) (s : Store), (∀ x ∈ xs, f x s = .ok (g x) s) → acc.length + xs.length ≤ line → compL f xs acc s = .ok (acc ++ xs.filterMap g) s
  | [], acc, s, _, _ => by simp [compL]
  | x :: xs, acc, s, h, hl => by
    rw [compL, h x List.mem_cons_self]
    rw [List.length_cons] at hl
    cases q : g x with
    | none =>
      simp only
      rw [compL_map xs acc s (fun y hy => h y (List.mem_cons_of_mem _ hy)) (by omega)]
      simp [List.filterMap_cons, q]
    | some y =>
      simp only
      rw [if_pos (by omega), compL_map xs (acc ++ [y]) s (fun y hy => h y (List.mem_cons_of_mem _ hy)) (by simp; omega)]
      simp [List.filterMap_cons, q]
theorem ev_comp_of {G : Gx} {kind : Nat} {its : List CE} {tg : Tg} {own : List Nat} {conds : List CE} {elt : CE} {ρ : Zw.Env} {s s1 : Store} {bs : List B} {xs : List D} {g : D → Option D} (h1 : evl G its ρ s = .ok bs s1) (h2 : (seens bs).bind (walk kind) = some xs)
    (h3 : ∀ x ∈ xs, turnC G tg own conds elt ρ x s1 = .ok (g x) s1) (hl : xs.length ≤ line) : ev G (.comp kind its tg own conds elt) ρ s = .ok (.own (.lst (xs.filterMap g))) s1 := by
  have h4 := compL_map (f := turnC G tg own conds elt ρ) xs [] s1 h3 (by simpa using hl)
  have e : ev G (.comp kind its tg own conds elt) ρ s = (evl G its ρ s).bind fun bs s => match (seens bs).bind (walk kind) with
      | none => .bad
      | some xs => (compL (turnC G tg own conds elt ρ) xs [] s).bind fun ys s => .ok (.own (.lst ys)) s := by rw [ev]; rfl
  rw [e, h1]
  show (match (seens bs).bind (walk kind) with
      | none => R.bad
      | some xs => (compL (turnC G tg own conds elt ρ) xs [] s1).bind fun ys s => R.ok (B.own (.lst ys)) s) = _
  rw [h2]
  show (compL (turnC G tg own conds elt ρ) xs [] s1).bind (fun ys s => R.ok (B.own (.lst ys)) s) = _
  rw [h4]
  rfl
theorem exec_for_of {G : Gx} {cs : Bool} {kind : Nat} {its : List CE} {tg : Tg} {body : List CS} {ρ : Zw.Env} {s s1 : Store} {bs : List B} {xs : List D} (h1 : evl G its ρ s = .ok bs s1) (h2 : (frzs bs).bind (walk kind) = some xs) :
    Zw.exec G (.for_ cs kind its tg body) ρ s = forL cs s1.length (fun x ρ s => match bindT tg x ρ with
          | none => .bad
          | some ρ => Zw.execs G body ρ s) xs ρ s1 := by
  rw [Zw.exec, h1]
  show (match (frzs bs).bind (walk kind) with
      | none => RS.bad
      | some xs => forL cs s1.length (fun x ρ s => match bindT tg x ρ with
          | none => .bad
          | some ρ => Zw.execs G body ρ s) xs ρ s1) = _
  rw [h2]
theorem eqOk_int (i j : Int) : eqOk (.int i) (.int j) = true := rfl
theorem eqOk_non : eqOk .non .non = true := rfl
theorem len2 {α : Type} (r : List α) : ((r.length : Int) + 1 + 1 + 1 == 2) = false := by simp; omega
theorem len3 {α : Type} (r : List α) : ((r.length : Int) + 1 + 1 + 1 + 1 == 3) = false := by simp; omega
theorem eqB_pt (a b c d : Int) : eqB (.tup [.int a, .int b]) (.tup [.int c, .int d]) = (a == c && b == d) := by simp [eqB, D.py, D.pys, PyData.eqv, PyData.eqvAll]
theorem eqOk_pt (a b c d : Int) : eqOk (.tup [.int a, .int b]) (.tup [.int c, .int d]) = true := rfl
theorem eqB_nil (xs : List D) : eqB (.lst xs) (.lst []) = xs.isEmpty := by cases xs <;> simp [eqB, D.py, D.pys, PyData.eqv, PyData.eqvAll]
theorem eqOk_nil {xs : List D} (h : D.Fines xs) (hd : D.deps xs ≤ 63) : eqOk (.lst xs) (.lst []) = true := eqOk_of (by rw [D.Fine]; exact h) (by rw [D.Fine, D.Fines]; trivial) (by rw [D.dep]; omega) (by decide)
theorem cls (x : D) : (∃ i, x = .int i) ∨ (isTy .int x = false ∨ (isTy .int x = true ∧ isTy .bool x = true)) := by
  cases x with
  | int i => exact .inl ⟨i, rfl⟩
  | bl b => exact .inr (.inr ⟨rfl, rfl⟩)
  | _ => exact .inr (.inl rfl)
theorem ty_int (i : Int) : isTy .int (.int i) = true := rfl
theorem ty_bool (i : Int) : isTy .bool (.int i) = false := rfl
theorem ty_tup (xs : List D) : isTy .tuple (.tup xs) = true := rfl
theorem isTup (d : D) : (∃ xs, d = .tup xs) ∨ isTy .tuple d = false := by
  cases d with
  | tup xs => exact .inl ⟨xs, rfl⟩
  | _ => exact .inr rfl
theorem dep_int (i : Int) : (D.int i).dep = 0 := rfl
end Zw
namespace Law
open Zw PySem
def c_GREAT : D := (.int 1000000000000000000000000000000000000000000000000000000000000)
def f_is_whole : Fn := ⟨1, 1, [(.ret (.andv [(.b1 (.isi .int) (.var 0)), (.notv (.b1 (.isi .bool) (.var 0))), (.chain .lt .lt (.neg (.gc 0)) (.var 0) (.gc 0))]))]⟩
def f_lowest : Fn := ⟨2, 4, [(.asg 2 (.ife (.cmp .lt (.var 1) (.cst (.int 0))) (.neg (.cst (.int 1))) (.cst (.int 1)))), (.asg 3 (.b2 .gcd (.var 0) (.var 1))), (.ret (.tup [(false, (.bin .fdiv (.bin .mul (.var 2) (.var 0)) (.var 3))), (false, (.bin .fdiv (.bin .mul (.var 2) (.var 1)) (.var 3)))]))]⟩
def f_turn_in : Fn := ⟨2, 2, [(.ret (.bin .sub (.bin .mul (.ix (.var 0) (.cst (.int 0))) (.ix (.var 1) (.cst (.int 1)))) (.bin .mul (.ix (.var 0) (.cst (.int 1))) (.ix (.var 1) (.cst (.int 0))))))]⟩
def f_along_in : Fn := ⟨2, 2, [(.ret (.bin .add (.bin .mul (.ix (.var 0) (.cst (.int 0))) (.ix (.var 1) (.cst (.int 0)))) (.bin .mul (.ix (.var 0) (.cst (.int 1))) (.ix (.var 1) (.cst (.int 1))))))]⟩
def f_is_point_of : Fn := ⟨1, 2, [(.ret (.andv [(.b1 (.isi .tuple) (.var 0)), (.cmp .eq (.b1 .len (.var 0)) (.cst (.int 2))), (.b1 .all (.comp 0 [(.var 0)] (.nm 1) [1] [] (.call 0 [(.var 1)])))]))]⟩
def f_is_direction_of : Fn := ⟨1, 1, [(.ret (.andv [(.call 4 [(.var 0)]), (.cmp .ne (.var 0) (.tup [(false, (.cst (.int 0))), (false, (.cst (.int 0)))]))]))]⟩
def f_is_integer_of : Fn := ⟨1, 1, [(.ret (.andv [(.b1 (.isi .int) (.var 0)), (.notv (.b1 (.isi .bool) (.var 0)))]))]⟩
def f_is_fraction_of : Fn := ⟨1, 2, [(.ite (.orv [(.notv (.b1 (.isi .tuple) (.var 0))), (.cmp .ne (.b1 .len (.var 0)) (.cst (.int 2))), (.notv (.b1 .all (.comp 0 [(.var 0)] (.nm 1) [1] [] (.call 6 [(.var 1)]))))]) [(.ret (.cst (.bl false)))] []), (.ret (.andv [(.cmp .gt (.ix (.var 0) (.cst (.int 1))) (.cst (.int 0))), (.cmp .eq (.b2 .gcd (.ix (.var 0) (.cst (.int 0))) (.ix (.var 0) (.cst (.int 1)))) (.cst (.int 1)))]))]⟩
def f_is_wedge_of : Fn := ⟨1, 2, [(.ite (.orv [(.notv (.b1 (.isi .tuple) (.var 0))), (.cmp .ne (.b1 .len (.var 0)) (.cst (.int 3))), (.notv (.call 4 [(.ix (.var 0) (.cst (.int 0)))]))]) [(.ret (.cst (.bl false)))] []), (.ite (.orv [(.notv (.call 5 [(.ix (.var 0) (.cst (.int 1)))])), (.notv (.call 5 [(.ix (.var 0) (.cst (.int 2)))]))]) [(.ret (.cst (.bl false)))] []), (.asg 1 (.call 2 [(.ix (.var 0) (.cst (.int 1))), (.ix (.var 0) (.cst (.int 2)))])), (.frz 1), (.ret (.orv [(.cmp .gt (.var 1) (.cst (.int 0))), (.andv [(.cmp .eq (.var 1) (.cst (.int 0))), (.cmp .gt (.call 3 [(.ix (.var 0) (.cst (.int 1))), (.ix (.var 0) (.cst (.int 2)))]) (.cst (.int 0)))])]))]⟩
def f_is_half_of : Fn := ⟨1, 2, [(.ite (.orv [(.notv (.b1 (.isi .tuple) (.var 0))), (.cmp .ne (.b1 .len (.var 0)) (.cst (.int 3))), (.notv (.b1 .all (.comp 0 [(.var 0)] (.nm 1) [1] [] (.call 6 [(.var 1)]))))]) [(.ret (.cst (.bl false)))] []), (.ret (.cmp .ne (.sl (.var 0) none (some (.cst (.int 2)))) (.tup [(false, (.cst (.int 0))), (false, (.cst (.int 0)))])))]⟩
def f_halves_in : Fn := ⟨1, 8, [(.asgT (.tup [(.tup [(.nm 1), (.nm 2)]), (.tup [(.nm 3), (.nm 4)]), (.tup [(.nm 5), (.nm 6)])]) (.var 0)), (.asg 7 (.tup [(false, (.tup [(false, (.var 4)), (false, (.neg (.var 3))), (false, (.bin .sub (.bin .mul (.var 4) (.var 1)) (.bin .mul (.var 3) (.var 2))))])), (false, (.tup [(false, (.neg (.var 6))), (false, (.var 5)), (false, (.bin .sub (.bin .mul (.var 5) (.var 2)) (.bin .mul (.var 6) (.var 1))))]))])), (.ret (.ife (.cmp .gt (.call 2 [(.tup [(false, (.var 3)), (false, (.var 4))]), (.tup [(false, (.var 5)), (false, (.var 6))])]) (.cst (.int 0))) (.var 7) (.tup [(true, (.var 7)), (false, (.tup [(false, (.neg (.var 3))), (false, (.neg (.var 4))), (false, (.bin .sub (.bin .mul (.neg (.var 3)) (.var 1)) (.bin .mul (.var 4) (.var 2))))]))])))]⟩
def f_is_below : Fn := ⟨2, 9, [(.asgT (.tup [(.nm 2), (.nm 3), (.nm 4)]) (.var 0)), (.asgT (.tup [(.tup [(.nm 5), (.nm 6)]), (.tup [(.nm 7), (.nm 8)])]) (.var 1)), (.ret (.cmp .le (.bin .add (.bin .mul (.bin .mul (.var 2) (.var 5)) (.var 8)) (.bin .mul (.bin .mul (.var 3) (.var 7)) (.var 6))) (.bin .mul (.bin .mul (.var 4) (.var 6)) (.var 8))))]⟩
def f_is_held : Fn := ⟨2, 3, [(.ret (.b1 .all (.comp 0 [(.call 10 [(.var 0)])] (.nm 2) [2] [] (.call 11 [(.var 2), (.var 1)]))))]⟩
def f_crossing_in : Fn := ⟨2, 9, [(.asgT (.tup [(.tup [(.nm 2), (.nm 3), (.nm 4)]), (.tup [(.nm 5), (.nm 6), (.nm 7)])]) (.tup [(false, (.var 0)), (false, (.var 1))])), (.asg 8 (.bin .sub (.bin .mul (.var 2) (.var 6)) (.bin .mul (.var 3) (.var 5)))), (.frz 8), (.ret (.ife (.cmp .eq (.var 8) (.cst (.int 0))) (.cst .non) (.tup [(false, (.call 1 [(.bin .sub (.bin .mul (.var 4) (.var 6)) (.bin .mul (.var 3) (.var 7))), (.var 8)])), (false, (.call 1 [(.bin .sub (.bin .mul (.var 2) (.var 7)) (.bin .mul (.var 4) (.var 5))), (.var 8)]))])))]⟩
def f_require_wedge : Fn := ⟨1, 1, [(.ite (.notv (.call 8 [(.var 0)])) [.never] [])]⟩
def f_is_place : Fn := ⟨1, 2, [(.ret (.andv [(.b1 (.isi .tuple) (.var 0)), (.cmp .eq (.b1 .len (.var 0)) (.cst (.int 2))), (.b1 .all (.comp 0 [(.var 0)] (.nm 1) [1] [] (.call 7 [(.var 1)])))]))]⟩
def f_half_planes : Fn := ⟨1, 1, [(.expr (.call 14 [(.var 0)])), (.ret (.call 10 [(.var 0)]))]⟩
def f_holds : Fn := ⟨2, 2, [(.expr (.call 14 [(.var 0)])), (.ite (.notv (.call 15 [(.var 1)])) [.never] []), (.ret (.call 12 [(.var 0), (.var 1)]))]⟩
def f_crossing : Fn := ⟨2, 3, [(.for_ false 0 [(.tup [(false, (.var 0)), (false, (.var 1))])] (.nm 2) [(.ite (.notv (.call 9 [(.var 2)])) [.never] [])]), (.ret (.call 13 [(.var 0), (.var 1)]))]⟩
def f__law_bag : Fn := ⟨2, 5, [(.asg 2 (.ife (.cmp .lt (.var 1) (.b1 .len (.var 0))) (.b1 .int (.ix (.var 0) (.var 1))) (.bin .add (.bin .mul (.cst (.int 89)) (.var 1)) (.cst (.int 41))))), (.asg 3 (.bin .mod (.b2 .max2 (.cst (.int 0)) (.bin .sub (.b1 .abs (.var 2)) (.bin .pow (.cst (.int 10)) (.cst (.int 18))))) (.bin .mul (.bin .pow (.cst (.int 10)) (.cst (.int 60))) (.bin .pow (.cst (.int 10)) (.cst (.int 60)))))), (.asg 4 (.bin .add (.bin .add (.bin .add (.bin .mul (.bin .mod (.b1 .int (.b1 .abs (.var 2))) (.bin .add (.bin .pow (.cst (.int 10)) (.cst (.int 12))) (.cst (.int 39)))) (.cst (.int 10007))) (.bin .mul (.cst (.int 509)) (.var 1))) (.bin .mul (.cst (.int 17)) (.b1 .int (.cmp .lt (.var 2) (.cst (.int 0)))))) (.cst (.int 1)))), (.ret (.lst [(false, (.var 3)), (false, (.bin .mod (.b1 .int (.var 4)) (.bin .sub (.bin .pow (.cst (.int 2)) (.cst (.int 61))) (.cst (.int 1)))))]))]⟩
def f__law_draw : Fn := ⟨2, 3, [(.ite (.cmp .gt (.ix (.var 0) (.cst (.int 0))) (.cst (.int 0))) [(.asg 2 (.bin .mod (.b1 .int (.ix (.var 0) (.cst (.int 0)))) (.var 1))), (.setIx 0 (.cst (.int 0)) (.bin .fdiv (.ix (.var 0) (.cst (.int 0))) (.var 1))), (.ret (.var 2))] []), (.setIx 0 (.cst (.int 1)) (.bin .mod (.b1 .int (.bin .add (.bin .mul (.ix (.var 0) (.cst (.int 1))) (.cst (.int 6364136223))) (.cst (.int 1442695041)))) (.bin .sub (.bin .pow (.cst (.int 2)) (.cst (.int 61))) (.cst (.int 1))))), (.ret (.bin .mod (.b1 .int (.bin .fdiv (.ix (.var 0) (.cst (.int 1))) (.cst (.int 65537)))) (.var 1)))]⟩
def f__law_one_of : Fn := ⟨2, 2, [(.ret (.ix (.var 1) (.call 20 [(.var 0), (.b1 .len (.var 1))])))]⟩
def f__law_turn : Fn := ⟨2, 2, [(.ret (.bin .sub (.bin .mul (.ix (.var 0) (.cst (.int 0))) (.ix (.var 1) (.cst (.int 1)))) (.bin .mul (.ix (.var 0) (.cst (.int 1))) (.ix (.var 1) (.cst (.int 0))))))]⟩
def f__law_dot : Fn := ⟨2, 2, [(.ret (.bin .add (.bin .mul (.ix (.var 0) (.cst (.int 0))) (.ix (.var 1) (.cst (.int 0)))) (.bin .mul (.ix (.var 0) (.cst (.int 1))) (.ix (.var 1) (.cst (.int 1))))))]⟩
def f__law_lowest : Fn := ⟨2, 5, [(.par [2, 3] [(.b1 .abs (.var 0)), (.b1 .abs (.var 1))]), (.while_ (.cmp .ne (.var 3) (.cst (.int 0))) [(.par [2, 3] [(.var 3), (.bin .mod (.b1 .int (.var 2)) (.var 3))]), (.frz 2)]), (.asg 4 (.ife (.cmp .gt (.var 1) (.cst (.int 0))) (.cst (.int 1)) (.neg (.cst (.int 1))))), (.ret (.tup [(false, (.bin .fdiv (.bin .mul (.var 4) (.var 0)) (.var 2))), (false, (.bin .fdiv (.bin .mul (.var 4) (.var 1)) (.var 2)))]))]⟩
def f__law_planes : Fn := ⟨1, 8, [(.asgT (.tup [(.tup [(.nm 1), (.nm 2)]), (.tup [(.nm 3), (.nm 4)]), (.tup [(.nm 5), (.nm 6)])]) (.var 0)), (.asg 7 (.tup [(false, (.tup [(false, (.var 4)), (false, (.bin .sub (.cst (.int 0)) (.var 3))), (false, (.bin .sub (.bin .mul (.var 4) (.var 1)) (.bin .mul (.var 3) (.var 2))))])), (false, (.tup [(false, (.bin .sub (.cst (.int 0)) (.var 6))), (false, (.var 5)), (false, (.bin .sub (.bin .mul (.var 5) (.var 2)) (.bin .mul (.var 6) (.var 1))))]))])), (.ret (.ife (.cmp .gt (.call 22 [(.tup [(false, (.var 3)), (false, (.var 4))]), (.tup [(false, (.var 5)), (false, (.var 6))])]) (.cst (.int 0))) (.var 7) (.bin .add (.var 7) (.tup [(false, (.tup [(false, (.bin .sub (.cst (.int 0)) (.var 3))), (false, (.bin .sub (.cst (.int 0)) (.var 4))), (false, (.bin .sub (.bin .sub (.cst (.int 0)) (.bin .mul (.var 3) (.var 1))) (.bin .mul (.var 4) (.var 2))))]))]))))]⟩
def f__law_does_hold : Fn := ⟨2, 11, [(.asgT (.tup [(.tup [(.nm 2), (.nm 3)]), (.nm 4), (.nm 5)]) (.var 0)), (.asgT (.tup [(.tup [(.nm 6), (.nm 7)]), (.tup [(.nm 8), (.nm 9)])]) (.var 1)), (.asg 10 (.tup [(false, (.bin .mul (.bin .sub (.var 6) (.bin .mul (.var 2) (.var 7))) (.var 9))), (false, (.bin .mul (.bin .sub (.var 8) (.bin .mul (.var 3) (.var 9))) (.var 7)))])), (.ite (.cmp .eq (.call 22 [(.var 4), (.var 5)]) (.cst (.int 0))) [(.ret (.andv [(.cmp .eq (.call 22 [(.var 4), (.var 10)]) (.cst (.int 0))), (.cmp .ge (.call 23 [(.var 4), (.var 10)]) (.cst (.int 0)))]))] []), (.ret (.andv [(.cmp .ge (.call 22 [(.var 10), (.var 5)]) (.cst (.int 0))), (.cmp .ge (.call 22 [(.var 4), (.var 10)]) (.cst (.int 0)))]))]⟩
def f__law_crossing : Fn := ⟨2, 5, [(.asg 2 (.bin .sub (.bin .mul (.ix (.var 0) (.cst (.int 0))) (.ix (.var 1) (.cst (.int 1)))) (.bin .mul (.ix (.var 0) (.cst (.int 1))) (.ix (.var 1) (.cst (.int 0)))))), (.ite (.cmp .eq (.var 2) (.cst (.int 0))) [(.ret (.cst .non))] []), (.par [3, 4] [(.bin .sub (.bin .mul (.ix (.var 0) (.cst (.int 2))) (.ix (.var 1) (.cst (.int 1)))) (.bin .mul (.ix (.var 1) (.cst (.int 2))) (.ix (.var 0) (.cst (.int 1))))), (.bin .sub (.bin .mul (.ix (.var 0) (.cst (.int 0))) (.ix (.var 1) (.cst (.int 2)))) (.bin .mul (.ix (.var 1) (.cst (.int 0))) (.ix (.var 0) (.cst (.int 2)))))]), (.ret (.tup [(false, (.call 24 [(.var 3), (.var 2)])), (false, (.call 24 [(.var 4), (.var 2)]))]))]⟩
def f__law_direction : Fn := ⟨2, 4, [(.asg 2 (.tup [(false, (.cst (.int 0))), (false, (.cst (.int 0)))])), (.for_ false 1 [(.cst (.int 9))] (.nm 3) [(.ite (.cmp .eq (.var 2) (.tup [(false, (.cst (.int 0))), (false, (.cst (.int 0)))])) [(.asg 2 (.tup [(false, (.bin .sub (.call 20 [(.var 0), (.bin .add (.bin .mul (.cst (.int 2)) (.var 1)) (.cst (.int 1)))]) (.var 1))), (false, (.bin .sub (.call 20 [(.var 0), (.bin .add (.bin .mul (.cst (.int 2)) (.var 1)) (.cst (.int 1)))]) (.var 1)))]))] [])]), (.ret (.ife (.cmp .ne (.var 2) (.tup [(false, (.cst (.int 0))), (false, (.cst (.int 0)))])) (.var 2) (.tup [(false, (.cst (.int 1))), (false, (.cst (.int 0)))])))]⟩
def f__law_wedge : Fn := ⟨2, 6, [(.par [2, 3] [(.tup [(false, (.bin .sub (.call 20 [(.var 0), (.bin .add (.bin .mul (.cst (.int 2)) (.var 1)) (.cst (.int 1)))]) (.var 1))), (false, (.bin .sub (.call 20 [(.var 0), (.bin .add (.bin .mul (.cst (.int 2)) (.var 1)) (.cst (.int 1)))]) (.var 1)))]), (.call 28 [(.var 0), (.var 1)])]), (.frz 3), (.ite (.cmp .eq (.call 20 [(.var 0), (.cst (.int 8))]) (.cst (.int 0))) [(.asg 4 (.bin .add (.cst (.int 1)) (.call 20 [(.var 0), (.cst (.int 3))]))), (.ret (.tup [(false, (.var 2)), (false, (.var 3)), (false, (.tup [(false, (.bin .mul (.var 4) (.ix (.var 3) (.cst (.int 0))))), (false, (.bin .mul (.var 4) (.ix (.var 3) (.cst (.int 1)))))]))]))] []), (.asg 5 (.call 28 [(.var 0), (.var 1)])), (.frz 5), (.ite (.cmp .eq (.call 22 [(.var 3), (.var 5)]) (.cst (.int 0))) [(.asg 5 (.tup [(false, (.bin .sub (.cst (.int 0)) (.ix (.var 3) (.cst (.int 1))))), (false, (.ix (.var 3) (.cst (.int 0))))]))] []), (.ret (.ife (.cmp .gt (.call 22 [(.var 3), (.var 5)]) (.cst (.int 0))) (.tup [(false, (.var 2)), (false, (.var 3)), (false, (.var 5))]) (.tup [(false, (.var 2)), (false, (.var 5)), (false, (.var 3))])))]⟩
def f__law_place : Fn := ⟨3, 13, [(.asgT (.tup [(.tup [(.nm 3), (.nm 4)]), (.tup [(.nm 5), (.nm 6)]), (.tup [(.nm 7), (.nm 8)])]) (.var 1)), (.par [9, 10, 11] [(.bin .sub (.call 20 [(.var 0), (.cst (.int 9))]) (.cst (.int 2))), (.bin .sub (.call 20 [(.var 0), (.cst (.int 9))]) (.cst (.int 2))), (.bin .add (.cst (.int 1)) (.call 20 [(.var 0), (.cst (.int 7))]))]), (.ite (.cmp .eq (.call 20 [(.var 0), (.cst (.int 3))]) (.cst (.int 0))) [(.asg 9 (.cst (.int 0)))] []), (.asg 12 (.tup [(false, (.bin .add (.bin .add (.bin .mul (.var 3) (.var 11)) (.bin .mul (.var 9) (.var 5))) (.bin .mul (.var 10) (.var 7)))), (false, (.bin .add (.bin .add (.bin .mul (.var 4) (.var 11)) (.bin .mul (.var 9) (.var 6))) (.bin .mul (.var 10) (.var 8))))])), (.ite (.cmp .eq (.call 20 [(.var 0), (.cst (.int 4))]) (.cst (.int 0))) [(.asg 12 (.tup [(false, (.bin .sub (.call 20 [(.var 0), (.bin .add (.bin .mul (.cst (.int 2)) (.var 2)) (.cst (.int 1)))]) (.var 2))), (false, (.bin .sub (.call 20 [(.var 0), (.bin .add (.bin .mul (.cst (.int 2)) (.var 2)) (.cst (.int 1)))]) (.var 2)))]))] []), (.ret (.tup [(false, (.call 24 [(.ix (.var 12) (.cst (.int 0))), (.var 11)])), (false, (.call 24 [(.ix (.var 12) (.cst (.int 1))), (.var 11)]))]))]⟩
def f__law_is_under : Fn := ⟨2, 6, [(.asgT (.tup [(.tup [(.nm 2), (.nm 3)]), (.tup [(.nm 4), (.nm 5)])]) (.var 1)), (.ret (.cmp .le (.bin .add (.bin .mul (.bin .mul (.ix (.var 0) (.cst (.int 0))) (.var 2)) (.var 5)) (.bin .mul (.bin .mul (.ix (.var 0) (.cst (.int 1))) (.var 4)) (.var 3))) (.bin .mul (.bin .mul (.ix (.var 0) (.cst (.int 2))) (.var 3)) (.var 5))))]⟩
def f__law_right : Fn := ⟨1, 10, [(.asg 1 (.call 21 [(.var 0), (.lst [(false, (.cst (.int 3))), (false, (.cst (.int 9))), (false, (.cst (.int 1000))), (false, (.bin .pow (.cst (.int 10)) (.cst (.int 20))))])])), (.frz 1), (.asg 2 (.call 29 [(.var 0), (.var 1)])), (.frz 2), (.for_ false 1 [(.cst (.int 8))] (.nm 3) [(.asg 4 (.call 30 [(.var 0), (.var 2), (.var 1)])), (.frz 4), (.asg 5 (.call 26 [(.var 2), (.var 4)])), (.frz 5), (.ite (.orv [(.cmp .ne (.b1 .repr (.call 17 [(.var 2), (.var 4)])) (.b1 .repr (.var 5))), (.cmp .ne (.cmp .eq (.comp 0 [(.call 16 [(.var 2)])] (.nm 6) [6] [(.notv (.call 31 [(.var 6), (.var 4)]))] (.cst (.int 1))) (.lst [])) (.var 5))]) [(.ret (.cst (.bl false)))] [])]), (.asg 7 (.lst [])), (.for_ false 1 [(.cst (.int 4))] (.nm 3) [(.app 7 (.bin .add (.call 28 [(.var 0), (.var 1)]) (.tup [(false, (.bin .sub (.call 20 [(.var 0), (.bin .add (.bin .mul (.cst (.int 2)) (.var 1)) (.cst (.int 1)))]) (.var 1)))])))]), (.asg 7 (.bin .add (.bin .add (.var 7) (.lst [(false, (.tup [(false, (.bin .mul (.cst (.int 3)) (.ix (.ix (.var 7) (.cst (.int 0))) (.cst (.int 0))))), (false, (.bin .mul (.cst (.int 3)) (.ix (.ix (.var 7) (.cst (.int 0))) (.cst (.int 1))))), (false, (.bin .mul (.cst (.int 3)) (.ix (.ix (.var 7) (.cst (.int 0))) (.cst (.int 2)))))])), (false, (.tup [(false, (.bin .sub (.cst (.int 0)) (.ix (.ix (.var 7) (.cst (.int 1))) (.cst (.int 0))))), (false, (.bin .sub (.cst (.int 0)) (.ix (.ix (.var 7) (.cst (.int 1))) (.cst (.int 1))))), (false, (.cst (.int 5)))]))])) (.b1 .list (.call 25 [(.var 2)])))), (.frz 7), (.for_ false 0 [(.var 7)] (.nm 8) [(.ite (.cmp .ne (.b1 .repr (.comp 0 [(.var 7)] (.nm 9) [9] [] (.call 18 [(.var 8), (.var 9)]))) (.b1 .repr (.comp 0 [(.var 7)] (.nm 9) [9] [] (.call 27 [(.var 8), (.var 9)])))) [(.ret (.cst (.bl false)))] [])]), (.ret (.cst (.bl true)))]⟩
def f_law : Fn := ⟨1, 7, [(.for_ true 1 [(.b2 .max2 (.cst (.int 1)) (.b2 .min2 (.cst (.int 4)) (.b1 .len (.var 0))))] (.nm 1) [(.asg 2 (.call 19 [(.var 0), (.var 1)])), (.mv 2), (.ite (.cmp .ne (.comp 1 [(.cst (.int 6))] (.nm 3) [3] [(.notv (.call 32 [(.var 2)]))] (.cst (.int 1))) (.lst [])) [(.ret (.cst (.bl false)))] [])]), (.asg 4 (.tup [(false, (.tup [(false, (.cst (.int 0))), (false, (.cst (.int 0)))])), (false, (.tup [(false, (.cst (.int 4))), (false, (.cst (.int 1)))])), (false, (.tup [(false, (.cst (.int 1))), (false, (.cst (.int 4)))]))])), (.asg 5 (.comp 0 [(.tup [(false, (.tup [(false, (.tup [(false, (.cst (.int 1))), (false, (.cst (.int 2)))])), (false, (.tup [(false, (.cst (.int 1))), (false, (.cst (.int 2)))]))])), (false, (.tup [(false, (.tup [(false, (.cst (.int 1))), (false, (.cst (.int 1)))])), (false, (.tup [(false, (.cst (.int 0))), (false, (.cst (.int 1)))]))])), (false, (.tup [(false, (.tup [(false, (.cst (.int 0))), (false, (.cst (.int 1)))])), (false, (.tup [(false, (.cst (.int 0))), (false, (.cst (.int 1)))]))])), (false, (.tup [(false, (.tup [(false, (.cst (.int 4))), (false, (.cst (.int 1)))])), (false, (.tup [(false, (.cst (.int 1))), (false, (.cst (.int 1)))]))]))])] (.nm 6) [6] [] (.call 17 [(.var 4), (.var 6)]))), (.frz 5), (.ret (.cmp .eq (.b1 .repr (.bin .add (.var 5) (.lst [(false, (.call 18 [(.tup [(false, (.cst (.int 1))), (false, (.neg (.cst (.int 4)))), (false, (.cst (.int 0)))]), (.tup [(false, (.cst (.int 0))), (false, (.cst (.int 1))), (false, (.cst (.int 3)))])]))]))) (.b1 .repr (.lst [(false, (.cst (.bl true))), (false, (.cst (.bl false))), (false, (.cst (.bl true))), (false, (.cst (.bl true))), (false, (.tup [(false, (.tup [(false, (.cst (.int 12))), (false, (.cst (.int 1)))])), (false, (.tup [(false, (.cst (.int 3))), (false, (.cst (.int 1)))]))]))]))))]⟩
def md : Md := ⟨[c_GREAT], [f_is_whole, f_lowest, f_turn_in, f_along_in, f_is_point_of, f_is_direction_of, f_is_integer_of, f_is_fraction_of, f_is_wedge_of, f_is_half_of, f_halves_in, f_is_below, f_is_held, f_crossing_in, f_require_wedge, f_is_place, f_half_planes, f_holds, f_crossing, f__law_bag, f__law_draw, f__law_one_of, f__law_turn, f__law_dot, f__law_lowest, f__law_planes, f__law_does_hold, f__law_crossing, f__law_direction, f__law_wedge, f__law_place, f__law_is_under, f__law_right, f_law]⟩
end Law
namespace Law
open Zw PySem
def gx (n : Nat) : Gx := ⟨md.call n, fun g => md.gcs[g]?⟩
theorem gx_fn (n i : Nat) : (gx n).fn i = md.call n i := rfl
theorem g_GREAT (n : Nat) : (gx n).gc 0 = some c_GREAT := rfl
theorem u_is_whole (n : Nat) (args : List B) (s : Store) : md.call (n + 1) 0 args s = runF (gx n) f_is_whole args s := rfl
theorem u_lowest (n : Nat) (args : List B) (s : Store) : md.call (n + 1) 1 args s = runF (gx n) f_lowest args s := rfl
theorem u_turn_in (n : Nat) (args : List B) (s : Store) : md.call (n + 1) 2 args s = runF (gx n) f_turn_in args s := rfl
theorem u_along_in (n : Nat) (args : List B) (s : Store) : md.call (n + 1) 3 args s = runF (gx n) f_along_in args s := rfl
theorem u_is_point_of (n : Nat) (args : List B) (s : Store) : md.call (n + 1) 4 args s = runF (gx n) f_is_point_of args s := rfl
theorem u_is_direction_of (n : Nat) (args : List B) (s : Store) : md.call (n + 1) 5 args s = runF (gx n) f_is_direction_of args s := rfl
theorem u_is_integer_of (n : Nat) (args : List B) (s : Store) : md.call (n + 1) 6 args s = runF (gx n) f_is_integer_of args s := rfl
theorem u_is_fraction_of (n : Nat) (args : List B) (s : Store) : md.call (n + 1) 7 args s = runF (gx n) f_is_fraction_of args s := rfl
theorem u_is_wedge_of (n : Nat) (args : List B) (s : Store) : md.call (n + 1) 8 args s = runF (gx n) f_is_wedge_of args s := rfl
theorem u_is_half_of (n : Nat) (args : List B) (s : Store) : md.call (n + 1) 9 args s = runF (gx n) f_is_half_of args s := rfl
theorem u_halves_in (n : Nat) (args : List B) (s : Store) : md.call (n + 1) 10 args s = runF (gx n) f_halves_in args s := rfl
theorem u_is_below (n : Nat) (args : List B) (s : Store) : md.call (n + 1) 11 args s = runF (gx n) f_is_below args s := rfl
theorem u_is_held (n : Nat) (args : List B) (s : Store) : md.call (n + 1) 12 args s = runF (gx n) f_is_held args s := rfl
theorem u_crossing_in (n : Nat) (args : List B) (s : Store) : md.call (n + 1) 13 args s = runF (gx n) f_crossing_in args s := rfl
theorem u_require_wedge (n : Nat) (args : List B) (s : Store) : md.call (n + 1) 14 args s = runF (gx n) f_require_wedge args s := rfl
theorem u_is_place (n : Nat) (args : List B) (s : Store) : md.call (n + 1) 15 args s = runF (gx n) f_is_place args s := rfl
theorem u_half_planes (n : Nat) (args : List B) (s : Store) : md.call (n + 1) 16 args s = runF (gx n) f_half_planes args s := rfl
theorem u_holds (n : Nat) (args : List B) (s : Store) : md.call (n + 1) 17 args s = runF (gx n) f_holds args s := rfl
theorem u_crossing (n : Nat) (args : List B) (s : Store) : md.call (n + 1) 18 args s = runF (gx n) f_crossing args s := rfl
theorem u__law_bag (n : Nat) (args : List B) (s : Store) : md.call (n + 1) 19 args s = runF (gx n) f__law_bag args s := rfl
theorem u__law_draw (n : Nat) (args : List B) (s : Store) : md.call (n + 1) 20 args s = runF (gx n) f__law_draw args s := rfl
theorem u__law_one_of (n : Nat) (args : List B) (s : Store) : md.call (n + 1) 21 args s = runF (gx n) f__law_one_of args s := rfl
theorem u__law_turn (n : Nat) (args : List B) (s : Store) : md.call (n + 1) 22 args s = runF (gx n) f__law_turn args s := rfl
theorem u__law_dot (n : Nat) (args : List B) (s : Store) : md.call (n + 1) 23 args s = runF (gx n) f__law_dot args s := rfl
theorem u__law_lowest (n : Nat) (args : List B) (s : Store) : md.call (n + 1) 24 args s = runF (gx n) f__law_lowest args s := rfl
theorem u__law_planes (n : Nat) (args : List B) (s : Store) : md.call (n + 1) 25 args s = runF (gx n) f__law_planes args s := rfl
theorem u__law_does_hold (n : Nat) (args : List B) (s : Store) : md.call (n + 1) 26 args s = runF (gx n) f__law_does_hold args s := rfl
theorem u__law_crossing (n : Nat) (args : List B) (s : Store) : md.call (n + 1) 27 args s = runF (gx n) f__law_crossing args s := rfl
theorem u__law_direction (n : Nat) (args : List B) (s : Store) : md.call (n + 1) 28 args s = runF (gx n) f__law_direction args s := rfl
theorem u__law_wedge (n : Nat) (args : List B) (s : Store) : md.call (n + 1) 29 args s = runF (gx n) f__law_wedge args s := rfl
theorem u__law_place (n : Nat) (args : List B) (s : Store) : md.call (n + 1) 30 args s = runF (gx n) f__law_place args s := rfl
theorem u__law_is_under (n : Nat) (args : List B) (s : Store) : md.call (n + 1) 31 args s = runF (gx n) f__law_is_under args s := rfl
theorem u__law_right (n : Nat) (args : List B) (s : Store) : md.call (n + 1) 32 args s = runF (gx n) f__law_right args s := rfl
theorem u_law (n : Nat) (args : List B) (s : Store) : md.call (n + 1) 33 args s = runF (gx n) f_law args s := rfl
end Law
set_option linter.all false
set_option maxRecDepth 100000
set_option maxHeartbeats 4000000
set_option exponentiation.threshold 5000
namespace Law
open Zw PySem
def wholeB : D → Bool
  | .int i => decide (-10 ^ 60 < i) && decide (i < 10 ^ 60)
  | _ => false
theorem whole_ok (n : Nat) (d : D) : md.call (n + 1) 0 [.t d] [] = .ok (.t (.bl (wholeB d))) [] := by
  rw [u_is_whole]
  cases d with
  | int i =>
    by_cases h : -1000000000000000000000000000000000000000000000000000000000000 < i
    · simp [gx_fn, runF, enter, B.par, Zw.execs, Zw.exec, Zw.ev, evl, evs, evg, evO, evAnd, evOr, evConds, evT, R.bind, R.to, R.of, readV, truB, B.look, B.peek, B.frz, B.give, B.still, B.bl?, D.tru, op2, opAdd, opSub, opMul, opMod, opFdiv, opPow, cmp2, cmLt, cmI, cmN, cmIn, D.isNon, bi1, bi2, biLen, biAbs, biInt, biAll, biTuple, biList, biSum, bi2I, ty_int, ty_bool, ty_tup, blsOf, Zw.still, ixD, ixN, itemsD, wipe, bindT, bindTs, seens, B.seen, Zw.walk, frzs, setAll, gives, eqOk_int, eqB_int, compL, len2, len3, eqOk_pt, eqB_pt, lstAt, lstPut, slice, cut, sIx, Zw.line, f_is_whole, g_GREAT, c_GREAT, wholeB, h]
    · simp [gx_fn, runF, enter, B.par, Zw.execs, Zw.exec, Zw.ev, evl, evs, evg, evO, evAnd, evOr, evConds, evT, R.bind, R.to, R.of, readV, truB, B.look, B.peek, B.frz, B.give, B.still, B.bl?, D.tru, op2, opAdd, opSub, opMul, opMod, opFdiv, opPow, cmp2, cmLt, cmI, cmN, cmIn, D.isNon, bi1, bi2, biLen, biAbs, biInt, biAll, biTuple, biList, biSum, bi2I, ty_int, ty_bool, ty_tup, blsOf, Zw.still, ixD, ixN, itemsD, wipe, bindT, bindTs, seens, B.seen, Zw.walk, frzs, setAll, gives, eqOk_int, eqB_int, compL, len2, len3, eqOk_pt, eqB_pt, lstAt, lstPut, slice, cut, sIx, Zw.line, f_is_whole, g_GREAT, c_GREAT, wholeB, h]
  | _ => simp [gx_fn, runF, enter, B.par, Zw.execs, Zw.exec, Zw.ev, evl, evs, evg, evO, evAnd, evOr, evConds, evT, R.bind, R.to, R.of, readV, truB, B.look, B.peek, B.frz, B.give, B.still, B.bl?, D.tru, op2, opAdd, opSub, opMul, opMod, opFdiv, opPow, cmp2, cmLt, cmI, cmN, cmIn, D.isNon, bi1, bi2, biLen, biAbs, biInt, biAll, biTuple, biList, biSum, bi2I, ty_int, ty_bool, ty_tup, blsOf, Zw.still, ixD, ixN, itemsD, wipe, bindT, bindTs, seens, B.seen, Zw.walk, frzs, setAll, gives, eqOk_int, eqB_int, compL, len2, len3, eqOk_pt, eqB_pt, lstAt, lstPut, slice, cut, sIx, Zw.line, f_is_whole, g_GREAT, c_GREAT, wholeB, isTy]
abbrev W (i : Int) : Prop := i.natAbs < 10 ^ 62
abbrev Pt (a b : Int) : D := .tup [.int a, .int b]
theorem mulW {i j : Int} (hi : W i) (hj : W j) : mulOk i j = true := mulOk_of (Nat.lt_of_lt_of_le hi (by decide)) (Nat.lt_of_lt_of_le hj (by decide))
theorem turn_in_ok (n : Nat) {a b c d : Int} (ha : W a) (hb : W b) (hc : W c) (hd : W d) : md.call (n + 1) 2 [.t (Pt a b), .t (Pt c d)] [] = .ok (.t (.int (a * d - b * c))) [] := by
  rw [u_turn_in]
  simp [gx_fn, runF, enter, B.par, Zw.execs, Zw.exec, Zw.ev, evl, evs, evg, evO, evAnd, evOr, evConds, evT, R.bind, R.to, R.of, readV, truB, B.look, B.peek, B.frz, B.give, B.still, B.bl?, D.tru, op2, opAdd, opSub, opMul, opMod, opFdiv, opPow, cmp2, cmLt, cmI, cmN, cmIn, D.isNon, bi1, bi2, biLen, biAbs, biInt, biAll, biTuple, biList, biSum, bi2I, ty_int, ty_bool, ty_tup, blsOf, Zw.still, ixD, ixN, itemsD, wipe, bindT, bindTs, seens, B.seen, Zw.walk, frzs, setAll, gives, eqOk_int, eqB_int, compL, len2, len3, eqOk_pt, eqB_pt, lstAt, lstPut, slice, cut, sIx, Zw.line, f_turn_in, mulW ha hd, mulW hb hc]
theorem along_in_ok (n : Nat) {a b c d : Int} (ha : W a) (hb : W b) (hc : W c) (hd : W d) : md.call (n + 1) 3 [.t (Pt a b), .t (Pt c d)] [] = .ok (.t (.int (a * c + b * d))) [] := by
  rw [u_along_in]
  simp [gx_fn, runF, enter, B.par, Zw.execs, Zw.exec, Zw.ev, evl, evs, evg, evO, evAnd, evOr, evConds, evT, R.bind, R.to, R.of, readV, truB, B.look, B.peek, B.frz, B.give, B.still, B.bl?, D.tru, op2, opAdd, opSub, opMul, opMod, opFdiv, opPow, cmp2, cmLt, cmI, cmN, cmIn, D.isNon, bi1, bi2, biLen, biAbs, biInt, biAll, biTuple, biList, biSum, bi2I, ty_int, ty_bool, ty_tup, blsOf, Zw.still, ixD, ixN, itemsD, wipe, bindT, bindTs, seens, B.seen, Zw.walk, frzs, setAll, gives, eqOk_int, eqB_int, compL, len2, len3, eqOk_pt, eqB_pt, lstAt, lstPut, slice, cut, sIx, Zw.line, f_along_in, mulW ha hc, mulW hb hd]
def pointB : D → Bool
  | .tup [x, y] => wholeB x && wholeB y
  | _ => false
theorem point_ok (n : Nat) (d : D) : md.call (n + 2) 4 [.t d] [] = .ok (.t (.bl (pointB d))) [] := by
  rw [u_is_point_of]
  have w := fun d => cs_t1 (whole_ok n d)
  rcases isTup d with ⟨xs, rfl⟩ | ht
  · match xs with
    | [] => simp [gx_fn, runF, enter, B.par, Zw.execs, Zw.exec, Zw.ev, evl, evs, evg, evO, evAnd, evOr, evConds, evT, R.bind, R.to, R.of, readV, truB, B.look, B.peek, B.frz, B.give, B.still, B.bl?, D.tru, op2, opAdd, opSub, opMul, opMod, opFdiv, opPow, cmp2, cmLt, cmI, cmN, cmIn, D.isNon, bi1, bi2, biLen, biAbs, biInt, biAll, biTuple, biList, biSum, bi2I, ty_int, ty_bool, ty_tup, blsOf, Zw.still, ixD, ixN, itemsD, wipe, bindT, bindTs, seens, B.seen, Zw.walk, frzs, setAll, gives, eqOk_int, eqB_int, compL, len2, len3, eqOk_pt, eqB_pt, lstAt, lstPut, slice, cut, sIx, Zw.line, f_is_point_of, pointB]
    | [x] => simp [gx_fn, runF, enter, B.par, Zw.execs, Zw.exec, Zw.ev, evl, evs, evg, evO, evAnd, evOr, evConds, evT, R.bind, R.to, R.of, readV, truB, B.look, B.peek, B.frz, B.give, B.still, B.bl?, D.tru, op2, opAdd, opSub, opMul, opMod, opFdiv, opPow, cmp2, cmLt, cmI, cmN, cmIn, D.isNon, bi1, bi2, biLen, biAbs, biInt, biAll, biTuple, biList, biSum, bi2I, ty_int, ty_bool, ty_tup, blsOf, Zw.still, ixD, ixN, itemsD, wipe, bindT, bindTs, seens, B.seen, Zw.walk, frzs, setAll, gives, eqOk_int, eqB_int, compL, len2, len3, eqOk_pt, eqB_pt, lstAt, lstPut, slice, cut, sIx, Zw.line, f_is_point_of, pointB, w]
    | [x, y] => simp [gx_fn, runF, enter, B.par, Zw.execs, Zw.exec, Zw.ev, evl, evs, evg, evO, evAnd, evOr, evConds, evT, R.bind, R.to, R.of, readV, truB, B.look, B.peek, B.frz, B.give, B.still, B.bl?, D.tru, op2, opAdd, opSub, opMul, opMod, opFdiv, opPow, cmp2, cmLt, cmI, cmN, cmIn, D.isNon, bi1, bi2, biLen, biAbs, biInt, biAll, biTuple, biList, biSum, bi2I, ty_int, ty_bool, ty_tup, blsOf, Zw.still, ixD, ixN, itemsD, wipe, bindT, bindTs, seens, B.seen, Zw.walk, frzs, setAll, gives, eqOk_int, eqB_int, compL, len2, len3, eqOk_pt, eqB_pt, lstAt, lstPut, slice, cut, sIx, Zw.line, f_is_point_of, pointB, w, line]
    | x :: y :: z :: r => simp [gx_fn, runF, enter, B.par, Zw.execs, Zw.exec, Zw.ev, evl, evs, evg, evO, evAnd, evOr, evConds, evT, R.bind, R.to, R.of, readV, truB, B.look, B.peek, B.frz, B.give, B.still, B.bl?, D.tru, op2, opAdd, opSub, opMul, opMod, opFdiv, opPow, cmp2, cmLt, cmI, cmN, cmIn, D.isNon, bi1, bi2, biLen, biAbs, biInt, biAll, biTuple, biList, biSum, bi2I, ty_int, ty_bool, ty_tup, blsOf, Zw.still, ixD, ixN, itemsD, wipe, bindT, bindTs, seens, B.seen, Zw.walk, frzs, setAll, gives, eqOk_int, eqB_int, compL, len2, len3, eqOk_pt, eqB_pt, lstAt, lstPut, slice, cut, sIx, Zw.line, f_is_point_of, pointB, w]
  · have : pointB d = false := by cases d <;> first | rfl | cases ht
    simp [gx_fn, runF, enter, B.par, Zw.execs, Zw.exec, Zw.ev, evl, evs, evg, evO, evAnd, evOr, evConds, evT, R.bind, R.to, R.of, readV, truB, B.look, B.peek, B.frz, B.give, B.still, B.bl?, D.tru, op2, opAdd, opSub, opMul, opMod, opFdiv, opPow, cmp2, cmLt, cmI, cmN, cmIn, D.isNon, bi1, bi2, biLen, biAbs, biInt, biAll, biTuple, biList, biSum, bi2I, ty_int, ty_bool, ty_tup, blsOf, Zw.still, ixD, ixN, itemsD, wipe, bindT, bindTs, seens, B.seen, Zw.walk, frzs, setAll, gives, eqOk_int, eqB_int, compL, len2, len3, eqOk_pt, eqB_pt, lstAt, lstPut, slice, cut, sIx, Zw.line, f_is_point_of, ht, this]
theorem whole_form {x : D} (h : wholeB x = true) : ∃ i, x = .int i ∧ i.natAbs < 10 ^ 60 := by
  cases x with
  | int i => exact ⟨i, rfl, by simp [wholeB] at h; omega⟩
  | _ => cases h
theorem point_form {d : D} (h : pointB d = true) : ∃ a b : Int, d = Pt a b ∧ a.natAbs < 10 ^ 60 ∧ b.natAbs < 10 ^ 60 := by
  unfold pointB at h
  split at h
  · simp at h
    obtain ⟨a, rfl, ha⟩ := whole_form h.1
    obtain ⟨b, rfl, hb⟩ := whole_form h.2
    exact ⟨a, b, rfl, ha, hb⟩
  · cases h
def dirB (d : D) : Bool := pointB d && !eqB d (Pt 0 0)
theorem dir_ok (n : Nat) (d : D) : md.call (n + 3) 5 [.t d] [] = .ok (.t (.bl (dirB d))) [] := by
  rw [u_is_direction_of]
  have w := fun d => cs_t1 (point_ok n d)
  cases h : pointB d with
  | false => simp [gx_fn, runF, enter, B.par, Zw.execs, Zw.exec, Zw.ev, evl, evs, evg, evO, evAnd, evOr, evConds, evT, R.bind, R.to, R.of, readV, truB, B.look, B.peek, B.frz, B.give, B.still, B.bl?, D.tru, op2, opAdd, opSub, opMul, opMod, opFdiv, opPow, cmp2, cmLt, cmI, cmN, cmIn, D.isNon, bi1, bi2, biLen, biAbs, biInt, biAll, biTuple, biList, biSum, bi2I, ty_int, ty_bool, ty_tup, blsOf, Zw.still, ixD, ixN, itemsD, wipe, bindT, bindTs, seens, B.seen, Zw.walk, frzs, setAll, gives, eqOk_int, eqB_int, compL, len2, len3, eqOk_pt, eqB_pt, lstAt, lstPut, slice, cut, sIx, Zw.line, f_is_direction_of, w, h, dirB]
  | true =>
    obtain ⟨a, b, rfl, ha, hb⟩ := point_form h
    simp [gx_fn, runF, enter, B.par, Zw.execs, Zw.exec, Zw.ev, evl, evs, evg, evO, evAnd, evOr, evConds, evT, R.bind, R.to, R.of, readV, truB, B.look, B.peek, B.frz, B.give, B.still, B.bl?, D.tru, op2, opAdd, opSub, opMul, opMod, opFdiv, opPow, cmp2, cmLt, cmI, cmN, cmIn, D.isNon, bi1, bi2, biLen, biAbs, biInt, biAll, biTuple, biList, biSum, bi2I, ty_int, ty_bool, ty_tup, blsOf, Zw.still, ixD, ixN, itemsD, wipe, bindT, bindTs, seens, B.seen, Zw.walk, frzs, setAll, gives, eqOk_int, eqB_int, compL, len2, len3, eqOk_pt, eqB_pt, lstAt, lstPut, slice, cut, sIx, Zw.line, f_is_direction_of, w, h, dirB]
def turnD : D → D → Int
  | .tup [.int a, .int b], .tup [.int c, .int d] => a * d - b * c
  | _, _ => 0
def dotD : D → D → Int
  | .tup [.int a, .int b], .tup [.int c, .int d] => a * c + b * d
  | _, _ => 0
def wedgeB : D → Bool
  | .tup [p, q, r] => pointB p && (dirB q && (dirB r && (decide (0 < turnD q r) || (decide (turnD q r = 0) && decide (0 < dotD q r)))))
  | _ => false
theorem dir_point {d : D} (h : dirB d = true) : pointB d = true := by
  unfold dirB at h
  simp at h
  exact h.1
theorem W60 {i : Int} (h : i.natAbs < 10 ^ 60) : W i := Nat.lt_of_lt_of_le h (by decide)
theorem wedge_ok (n : Nat) (d : D) : md.call (n + 4) 8 [.t d] [] = .ok (.t (.bl (wedgeB d))) [] := by
  rw [u_is_wedge_of]
  have w3 := fun d => cs_t1 (point_ok (n + 1) d)
  have w4 := fun d => cs_t1 (dir_ok n d)
  rcases isTup d with ⟨xs, rfl⟩ | ht
  · match xs with
    | [] => simp [gx_fn, runF, enter, B.par, Zw.execs, Zw.exec, Zw.ev, evl, evs, evg, evO, evAnd, evOr, evConds, evT, R.bind, R.to, R.of, readV, truB, B.look, B.peek, B.frz, B.give, B.still, B.bl?, D.tru, op2, opAdd, opSub, opMul, opMod, opFdiv, opPow, cmp2, cmLt, cmI, cmN, cmIn, D.isNon, bi1, bi2, biLen, biAbs, biInt, biAll, biTuple, biList, biSum, bi2I, ty_int, ty_bool, ty_tup, blsOf, Zw.still, ixD, ixN, itemsD, wipe, bindT, bindTs, seens, B.seen, Zw.walk, frzs, setAll, gives, eqOk_int, eqB_int, compL, len2, len3, eqOk_pt, eqB_pt, lstAt, lstPut, slice, cut, sIx, Zw.line, f_is_wedge_of, wedgeB]
    | [x] => simp [gx_fn, runF, enter, B.par, Zw.execs, Zw.exec, Zw.ev, evl, evs, evg, evO, evAnd, evOr, evConds, evT, R.bind, R.to, R.of, readV, truB, B.look, B.peek, B.frz, B.give, B.still, B.bl?, D.tru, op2, opAdd, opSub, opMul, opMod, opFdiv, opPow, cmp2, cmLt, cmI, cmN, cmIn, D.isNon, bi1, bi2, biLen, biAbs, biInt, biAll, biTuple, biList, biSum, bi2I, ty_int, ty_bool, ty_tup, blsOf, Zw.still, ixD, ixN, itemsD, wipe, bindT, bindTs, seens, B.seen, Zw.walk, frzs, setAll, gives, eqOk_int, eqB_int, compL, len2, len3, eqOk_pt, eqB_pt, lstAt, lstPut, slice, cut, sIx, Zw.line, f_is_wedge_of, wedgeB, w3]
    | [x, y] => simp [gx_fn, runF, enter, B.par, Zw.execs, Zw.exec, Zw.ev, evl, evs, evg, evO, evAnd, evOr, evConds, evT, R.bind, R.to, R.of, readV, truB, B.look, B.peek, B.frz, B.give, B.still, B.bl?, D.tru, op2, opAdd, opSub, opMul, opMod, opFdiv, opPow, cmp2, cmLt, cmI, cmN, cmIn, D.isNon, bi1, bi2, biLen, biAbs, biInt, biAll, biTuple, biList, biSum, bi2I, ty_int, ty_bool, ty_tup, blsOf, Zw.still, ixD, ixN, itemsD, wipe, bindT, bindTs, seens, B.seen, Zw.walk, frzs, setAll, gives, eqOk_int, eqB_int, compL, len2, len3, eqOk_pt, eqB_pt, lstAt, lstPut, slice, cut, sIx, Zw.line, f_is_wedge_of, wedgeB, w3]
    | p :: q :: r :: z :: l => simp [gx_fn, runF, enter, B.par, Zw.execs, Zw.exec, Zw.ev, evl, evs, evg, evO, evAnd, evOr, evConds, evT, R.bind, R.to, R.of, readV, truB, B.look, B.peek, B.frz, B.give, B.still, B.bl?, D.tru, op2, opAdd, opSub, opMul, opMod, opFdiv, opPow, cmp2, cmLt, cmI, cmN, cmIn, D.isNon, bi1, bi2, biLen, biAbs, biInt, biAll, biTuple, biList, biSum, bi2I, ty_int, ty_bool, ty_tup, blsOf, Zw.still, ixD, ixN, itemsD, wipe, bindT, bindTs, seens, B.seen, Zw.walk, frzs, setAll, gives, eqOk_int, eqB_int, compL, len2, len3, eqOk_pt, eqB_pt, lstAt, lstPut, slice, cut, sIx, Zw.line, f_is_wedge_of, wedgeB, w3]
    | [p, q, r] =>
      cases hp : pointB p with
      | false => simp [gx_fn, runF, enter, B.par, Zw.execs, Zw.exec, Zw.ev, evl, evs, evg, evO, evAnd, evOr, evConds, evT, R.bind, R.to, R.of, readV, truB, B.look, B.peek, B.frz, B.give, B.still, B.bl?, D.tru, op2, opAdd, opSub, opMul, opMod, opFdiv, opPow, cmp2, cmLt, cmI, cmN, cmIn, D.isNon, bi1, bi2, biLen, biAbs, biInt, biAll, biTuple, biList, biSum, bi2I, ty_int, ty_bool, ty_tup, blsOf, Zw.still, ixD, ixN, itemsD, wipe, bindT, bindTs, seens, B.seen, Zw.walk, frzs, setAll, gives, eqOk_int, eqB_int, compL, len2, len3, eqOk_pt, eqB_pt, lstAt, lstPut, slice, cut, sIx, Zw.line, f_is_wedge_of, wedgeB, w3, w4, hp]
      | true =>
      cases hq : dirB q with
      | false => simp [gx_fn, runF, enter, B.par, Zw.execs, Zw.exec, Zw.ev, evl, evs, evg, evO, evAnd, evOr, evConds, evT, R.bind, R.to, R.of, readV, truB, B.look, B.peek, B.frz, B.give, B.still, B.bl?, D.tru, op2, opAdd, opSub, opMul, opMod, opFdiv, opPow, cmp2, cmLt, cmI, cmN, cmIn, D.isNon, bi1, bi2, biLen, biAbs, biInt, biAll, biTuple, biList, biSum, bi2I, ty_int, ty_bool, ty_tup, blsOf, Zw.still, ixD, ixN, itemsD, wipe, bindT, bindTs, seens, B.seen, Zw.walk, frzs, setAll, gives, eqOk_int, eqB_int, compL, len2, len3, eqOk_pt, eqB_pt, lstAt, lstPut, slice, cut, sIx, Zw.line, f_is_wedge_of, wedgeB, w3, w4, hp, hq]
      | true =>
      cases hr : dirB r with
      | false => simp [gx_fn, runF, enter, B.par, Zw.execs, Zw.exec, Zw.ev, evl, evs, evg, evO, evAnd, evOr, evConds, evT, R.bind, R.to, R.of, readV, truB, B.look, B.peek, B.frz, B.give, B.still, B.bl?, D.tru, op2, opAdd, opSub, opMul, opMod, opFdiv, opPow, cmp2, cmLt, cmI, cmN, cmIn, D.isNon, bi1, bi2, biLen, biAbs, biInt, biAll, biTuple, biList, biSum, bi2I, ty_int, ty_bool, ty_tup, blsOf, Zw.still, ixD, ixN, itemsD, wipe, bindT, bindTs, seens, B.seen, Zw.walk, frzs, setAll, gives, eqOk_int, eqB_int, compL, len2, len3, eqOk_pt, eqB_pt, lstAt, lstPut, slice, cut, sIx, Zw.line, f_is_wedge_of, wedgeB, w3, w4, hp, hq, hr]
      | true =>
      obtain ⟨a, b, rfl, ha, hb⟩ := point_form (dir_point hq)
      obtain ⟨c, e, rfl, hc, he⟩ := point_form (dir_point hr)
      have w1 : ∀ s, callS (md.call (n + 3) 2) [.t (Pt a b), .t (Pt c e)] s = .ok (.t (.int (turnD (Pt a b) (Pt c e)))) s := fun s => cs_t2 (turn_in_ok (n + 2) (W60 ha) (W60 hb) (W60 hc) (W60 he)) s
      have w2 : ∀ s, callS (md.call (n + 3) 3) [.t (Pt a b), .t (Pt c e)] s = .ok (.t (.int (dotD (Pt a b) (Pt c e)))) s := fun s => cs_t2 (along_in_ok (n + 2) (W60 ha) (W60 hb) (W60 hc) (W60 he)) s
      rw [show wedgeB (.tup [p, Pt a b, Pt c e]) = (decide (0 < turnD (Pt a b) (Pt c e)) || (decide (turnD (Pt a b) (Pt c e) = 0) && decide (0 < dotD (Pt a b) (Pt c e)))) by simp [wedgeB, hp, hq, hr]]
      generalize turnD (Pt a b) (Pt c e) = t at *
      generalize dotD (Pt a b) (Pt c e) = u at *
      by_cases h1 : 0 < t
      · simp [gx_fn, runF, enter, B.par, Zw.execs, Zw.exec, Zw.ev, evl, evs, evg, evO, evAnd, evOr, evConds, evT, R.bind, R.to, R.of, readV, truB, B.look, B.peek, B.frz, B.give, B.still, B.bl?, D.tru, op2, opAdd, opSub, opMul, opMod, opFdiv, opPow, cmp2, cmLt, cmI, cmN, cmIn, D.isNon, bi1, bi2, biLen, biAbs, biInt, biAll, biTuple, biList, biSum, bi2I, ty_int, ty_bool, ty_tup, blsOf, Zw.still, ixD, ixN, itemsD, wipe, bindT, bindTs, seens, B.seen, Zw.walk, frzs, setAll, gives, eqOk_int, eqB_int, compL, len2, len3, eqOk_pt, eqB_pt, lstAt, lstPut, slice, cut, sIx, Zw.line, f_is_wedge_of, w3, w4, hp, hq, hr, w1, w2, h1]
      · by_cases h2 : t = 0
        · simp [gx_fn, runF, enter, B.par, Zw.execs, Zw.exec, Zw.ev, evl, evs, evg, evO, evAnd, evOr, evConds, evT, R.bind, R.to, R.of, readV, truB, B.look, B.peek, B.frz, B.give, B.still, B.bl?, D.tru, op2, opAdd, opSub, opMul, opMod, opFdiv, opPow, cmp2, cmLt, cmI, cmN, cmIn, D.isNon, bi1, bi2, biLen, biAbs, biInt, biAll, biTuple, biList, biSum, bi2I, ty_int, ty_bool, ty_tup, blsOf, Zw.still, ixD, ixN, itemsD, wipe, bindT, bindTs, seens, B.seen, Zw.walk, frzs, setAll, gives, eqOk_int, eqB_int, compL, len2, len3, eqOk_pt, eqB_pt, lstAt, lstPut, slice, cut, sIx, Zw.line, f_is_wedge_of, w3, w4, hp, hq, hr, w1, w2, h1, h2]
        · have h3 : (t == 0) = false := by simpa using h2
          simp [gx_fn, runF, enter, B.par, Zw.execs, Zw.exec, Zw.ev, evl, evs, evg, evO, evAnd, evOr, evConds, evT, R.bind, R.to, R.of, readV, truB, B.look, B.peek, B.frz, B.give, B.still, B.bl?, D.tru, op2, opAdd, opSub, opMul, opMod, opFdiv, opPow, cmp2, cmLt, cmI, cmN, cmIn, D.isNon, bi1, bi2, biLen, biAbs, biInt, biAll, biTuple, biList, biSum, bi2I, ty_int, ty_bool, ty_tup, blsOf, Zw.still, ixD, ixN, itemsD, wipe, bindT, bindTs, seens, B.seen, Zw.walk, frzs, setAll, gives, eqOk_int, eqB_int, compL, len2, len3, eqOk_pt, eqB_pt, lstAt, lstPut, slice, cut, sIx, Zw.line, f_is_wedge_of, w3, w4, hp, hq, hr, w1, w2, h1, h2, h3]
  · have : wedgeB d = false := by cases d <;> first | rfl | cases ht
    simp [gx_fn, runF, enter, B.par, Zw.execs, Zw.exec, Zw.ev, evl, evs, evg, evO, evAnd, evOr, evConds, evT, R.bind, R.to, R.of, readV, truB, B.look, B.peek, B.frz, B.give, B.still, B.bl?, D.tru, op2, opAdd, opSub, opMul, opMod, opFdiv, opPow, cmp2, cmLt, cmI, cmN, cmIn, D.isNon, bi1, bi2, biLen, biAbs, biInt, biAll, biTuple, biList, biSum, bi2I, ty_int, ty_bool, ty_tup, blsOf, Zw.still, ixD, ixN, itemsD, wipe, bindT, bindTs, seens, B.seen, Zw.walk, frzs, setAll, gives, eqOk_int, eqB_int, compL, len2, len3, eqOk_pt, eqB_pt, lstAt, lstPut, slice, cut, sIx, Zw.line, f_is_wedge_of, ht, this]
/-! ### the law's own look -/
theorem lturn_ok (n : Nat) {a b c d : Int} (ha : W a) (hb : W b) (hc : W c) (hd : W d) : md.call (n + 1) 22 [.t (Pt a b), .t (Pt c d)] [] = .ok (.t (.int (a * d - b * c))) [] := by
  rw [u__law_turn]
  simp [gx_fn, runF, enter, B.par, Zw.execs, Zw.exec, Zw.ev, evl, evs, evg, evO, evAnd, evOr, evConds, evT, R.bind, R.to, R.of, readV, truB, B.look, B.peek, B.frz, B.give, B.still, B.bl?, D.tru, op2, opAdd, opSub, opMul, opMod, opFdiv, opPow, cmp2, cmLt, cmI, cmN, cmIn, D.isNon, bi1, bi2, biLen, biAbs, biInt, biAll, biTuple, biList, biSum, bi2I, ty_int, ty_bool, ty_tup, blsOf, Zw.still, ixD, ixN, itemsD, wipe, bindT, bindTs, seens, B.seen, Zw.walk, frzs, setAll, gives, eqOk_int, eqB_int, compL, len2, len3, eqOk_pt, eqB_pt, lstAt, lstPut, slice, cut, sIx, Zw.line, f__law_turn, mulW ha hd, mulW hb hc]
theorem ldot_ok (n : Nat) {a b c d : Int} (ha : W a) (hb : W b) (hc : W c) (hd : W d) : md.call (n + 1) 23 [.t (Pt a b), .t (Pt c d)] [] = .ok (.t (.int (a * c + b * d))) [] := by
  rw [u__law_dot]
  simp [gx_fn, runF, enter, B.par, Zw.execs, Zw.exec, Zw.ev, evl, evs, evg, evO, evAnd, evOr, evConds, evT, R.bind, R.to, R.of, readV, truB, B.look, B.peek, B.frz, B.give, B.still, B.bl?, D.tru, op2, opAdd, opSub, opMul, opMod, opFdiv, opPow, cmp2, cmLt, cmI, cmN, cmIn, D.isNon, bi1, bi2, biLen, biAbs, biInt, biAll, biTuple, biList, biSum, bi2I, ty_int, ty_bool, ty_tup, blsOf, Zw.still, ixD, ixN, itemsD, wipe, bindT, bindTs, seens, B.seen, Zw.walk, frzs, setAll, gives, eqOk_int, eqB_int, compL, len2, len3, eqOk_pt, eqB_pt, lstAt, lstPut, slice, cut, sIx, Zw.line, f__law_dot, mulW ha hc, mulW hb hd]
end Law
set_option linter.all false
set_option maxRecDepth 100000
set_option maxHeartbeats 4000000
set_option exponentiation.threshold 5000
namespace Law
open Zw PySem
def intB : D → Bool
  | .int _ => true
  | _ => false
theorem int_form {x : D} (h : intB x = true) : ∃ i, x = .int i := by
  cases x with
  | int i => exact ⟨i, rfl⟩
  | _ => cases h
theorem integer_ok (n : Nat) (d : D) : md.call (n + 1) 6 [.t d] [] = .ok (.t (.bl (intB d))) [] := by
  rw [u_is_integer_of]
  rcases cls d with ⟨i, rfl⟩ | h | ⟨h1, h2⟩
  · simp [gx_fn, runF, enter, B.par, Zw.execs, Zw.exec, Zw.ev, evl, evs, evg, evO, evAnd, evOr, evConds, evT, R.bind, R.to, R.of, readV, truB, B.look, B.peek, B.frz, B.give, B.still, B.bl?, D.tru, op2, opAdd, opSub, opMul, opMod, opFdiv, opPow, cmp2, cmLt, cmI, cmN, cmIn, D.isNon, bi1, bi2, biLen, biAbs, biInt, biAll, biTuple, biList, biSum, bi2I, ty_int, ty_bool, ty_tup, blsOf, Zw.still, ixD, ixN, itemsD, wipe, bindT, bindTs, seens, B.seen, Zw.walk, frzs, setAll, gives, eqOk_int, eqB_int, compL, len2, len3, eqOk_pt, eqB_pt, lstAt, lstPut, slice, cut, sIx, Zw.line, f_is_integer_of, intB]
  · have : intB d = false := by cases d <;> first | rfl | cases h
    simp [gx_fn, runF, enter, B.par, Zw.execs, Zw.exec, Zw.ev, evl, evs, evg, evO, evAnd, evOr, evConds, evT, R.bind, R.to, R.of, readV, truB, B.look, B.peek, B.frz, B.give, B.still, B.bl?, D.tru, op2, opAdd, opSub, opMul, opMod, opFdiv, opPow, cmp2, cmLt, cmI, cmN, cmIn, D.isNon, bi1, bi2, biLen, biAbs, biInt, biAll, biTuple, biList, biSum, bi2I, ty_int, ty_bool, ty_tup, blsOf, Zw.still, ixD, ixN, itemsD, wipe, bindT, bindTs, seens, B.seen, Zw.walk, frzs, setAll, gives, eqOk_int, eqB_int, compL, len2, len3, eqOk_pt, eqB_pt, lstAt, lstPut, slice, cut, sIx, Zw.line, f_is_integer_of, h, this]
  · have : intB d = false := by cases d <;> first | rfl | cases h2
    simp [gx_fn, runF, enter, B.par, Zw.execs, Zw.exec, Zw.ev, evl, evs, evg, evO, evAnd, evOr, evConds, evT, R.bind, R.to, R.of, readV, truB, B.look, B.peek, B.frz, B.give, B.still, B.bl?, D.tru, op2, opAdd, opSub, opMul, opMod, opFdiv, opPow, cmp2, cmLt, cmI, cmN, cmIn, D.isNon, bi1, bi2, biLen, biAbs, biInt, biAll, biTuple, biList, biSum, bi2I, ty_int, ty_bool, ty_tup, blsOf, Zw.still, ixD, ixN, itemsD, wipe, bindT, bindTs, seens, B.seen, Zw.walk, frzs, setAll, gives, eqOk_int, eqB_int, compL, len2, len3, eqOk_pt, eqB_pt, lstAt, lstPut, slice, cut, sIx, Zw.line, f_is_integer_of, h1, h2, this]
def fracB : D → Bool
  | .tup [.int a, .int b] => decide (0 < b) && (((Int.gcd a b : Nat) : Int) == 1)
  | _ => false
theorem fraction_ok (n : Nat) (d : D) : md.call (n + 2) 7 [.t d] [] = .ok (.t (.bl (fracB d))) [] := by
  rw [u_is_fraction_of]
  have w := fun d => cs_t1 (integer_ok n d)
  rcases isTup d with ⟨xs, rfl⟩ | ht
  · match xs with
    | [] => simp [gx_fn, runF, enter, B.par, Zw.execs, Zw.exec, Zw.ev, evl, evs, evg, evO, evAnd, evOr, evConds, evT, R.bind, R.to, R.of, readV, truB, B.look, B.peek, B.frz, B.give, B.still, B.bl?, D.tru, op2, opAdd, opSub, opMul, opMod, opFdiv, opPow, cmp2, cmLt, cmI, cmN, cmIn, D.isNon, bi1, bi2, biLen, biAbs, biInt, biAll, biTuple, biList, biSum, bi2I, ty_int, ty_bool, ty_tup, blsOf, Zw.still, ixD, ixN, itemsD, wipe, bindT, bindTs, seens, B.seen, Zw.walk, frzs, setAll, gives, eqOk_int, eqB_int, compL, len2, len3, eqOk_pt, eqB_pt, lstAt, lstPut, slice, cut, sIx, Zw.line, f_is_fraction_of, fracB]
    | [x] => simp [gx_fn, runF, enter, B.par, Zw.execs, Zw.exec, Zw.ev, evl, evs, evg, evO, evAnd, evOr, evConds, evT, R.bind, R.to, R.of, readV, truB, B.look, B.peek, B.frz, B.give, B.still, B.bl?, D.tru, op2, opAdd, opSub, opMul, opMod, opFdiv, opPow, cmp2, cmLt, cmI, cmN, cmIn, D.isNon, bi1, bi2, biLen, biAbs, biInt, biAll, biTuple, biList, biSum, bi2I, ty_int, ty_bool, ty_tup, blsOf, Zw.still, ixD, ixN, itemsD, wipe, bindT, bindTs, seens, B.seen, Zw.walk, frzs, setAll, gives, eqOk_int, eqB_int, compL, len2, len3, eqOk_pt, eqB_pt, lstAt, lstPut, slice, cut, sIx, Zw.line, f_is_fraction_of, fracB, w]
    | x :: y :: z :: r => simp [gx_fn, runF, enter, B.par, Zw.execs, Zw.exec, Zw.ev, evl, evs, evg, evO, evAnd, evOr, evConds, evT, R.bind, R.to, R.of, readV, truB, B.look, B.peek, B.frz, B.give, B.still, B.bl?, D.tru, op2, opAdd, opSub, opMul, opMod, opFdiv, opPow, cmp2, cmLt, cmI, cmN, cmIn, D.isNon, bi1, bi2, biLen, biAbs, biInt, biAll, biTuple, biList, biSum, bi2I, ty_int, ty_bool, ty_tup, blsOf, Zw.still, ixD, ixN, itemsD, wipe, bindT, bindTs, seens, B.seen, Zw.walk, frzs, setAll, gives, eqOk_int, eqB_int, compL, len2, len3, eqOk_pt, eqB_pt, lstAt, lstPut, slice, cut, sIx, Zw.line, f_is_fraction_of, fracB, w]
    | [x, y] =>
      cases hx : intB x with
      | false =>
        have : fracB (.tup [x, y]) = false := by cases x <;> first | rfl | cases hx
        simp [gx_fn, runF, enter, B.par, Zw.execs, Zw.exec, Zw.ev, evl, evs, evg, evO, evAnd, evOr, evConds, evT, R.bind, R.to, R.of, readV, truB, B.look, B.peek, B.frz, B.give, B.still, B.bl?, D.tru, op2, opAdd, opSub, opMul, opMod, opFdiv, opPow, cmp2, cmLt, cmI, cmN, cmIn, D.isNon, bi1, bi2, biLen, biAbs, biInt, biAll, biTuple, biList, biSum, bi2I, ty_int, ty_bool, ty_tup, blsOf, Zw.still, ixD, ixN, itemsD, wipe, bindT, bindTs, seens, B.seen, Zw.walk, frzs, setAll, gives, eqOk_int, eqB_int, compL, len2, len3, eqOk_pt, eqB_pt, lstAt, lstPut, slice, cut, sIx, Zw.line, f_is_fraction_of, w, hx, this]
      | true =>
      cases hy : intB y with
      | false =>
        have : fracB (.tup [x, y]) = false := by
          obtain ⟨a, rfl⟩ := int_form hx
          cases y <;> first | rfl | cases hy
        simp [gx_fn, runF, enter, B.par, Zw.execs, Zw.exec, Zw.ev, evl, evs, evg, evO, evAnd, evOr, evConds, evT, R.bind, R.to, R.of, readV, truB, B.look, B.peek, B.frz, B.give, B.still, B.bl?, D.tru, op2, opAdd, opSub, opMul, opMod, opFdiv, opPow, cmp2, cmLt, cmI, cmN, cmIn, D.isNon, bi1, bi2, biLen, biAbs, biInt, biAll, biTuple, biList, biSum, bi2I, ty_int, ty_bool, ty_tup, blsOf, Zw.still, ixD, ixN, itemsD, wipe, bindT, bindTs, seens, B.seen, Zw.walk, frzs, setAll, gives, eqOk_int, eqB_int, compL, len2, len3, eqOk_pt, eqB_pt, lstAt, lstPut, slice, cut, sIx, Zw.line, f_is_fraction_of, w, hx, hy, this]
      | true =>
      obtain ⟨a, rfl⟩ := int_form hx
      obtain ⟨b, rfl⟩ := int_form hy
      rw [show fracB (.tup [.int a, .int b]) = (decide (0 < b) && (((Int.gcd a b : Nat) : Int) == 1)) from rfl]
      have hi : ∀ i, intB (.int i) = true := fun _ => rfl
      by_cases h : 0 < b
      · simp [gx_fn, runF, enter, B.par, Zw.execs, Zw.exec, Zw.ev, evl, evs, evg, evO, evAnd, evOr, evConds, evT, R.bind, R.to, R.of, readV, truB, B.look, B.peek, B.frz, B.give, B.still, B.bl?, D.tru, op2, opAdd, opSub, opMul, opMod, opFdiv, opPow, cmp2, cmLt, cmI, cmN, cmIn, D.isNon, bi1, bi2, biLen, biAbs, biInt, biAll, biTuple, biList, biSum, bi2I, ty_int, ty_bool, ty_tup, blsOf, Zw.still, ixD, ixN, itemsD, wipe, bindT, bindTs, seens, B.seen, Zw.walk, frzs, setAll, gives, eqOk_int, eqB_int, compL, len2, len3, eqOk_pt, eqB_pt, lstAt, lstPut, slice, cut, sIx, Zw.line, f_is_fraction_of, w, hi, h]
      · simp [gx_fn, runF, enter, B.par, Zw.execs, Zw.exec, Zw.ev, evl, evs, evg, evO, evAnd, evOr, evConds, evT, R.bind, R.to, R.of, readV, truB, B.look, B.peek, B.frz, B.give, B.still, B.bl?, D.tru, op2, opAdd, opSub, opMul, opMod, opFdiv, opPow, cmp2, cmLt, cmI, cmN, cmIn, D.isNon, bi1, bi2, biLen, biAbs, biInt, biAll, biTuple, biList, biSum, bi2I, ty_int, ty_bool, ty_tup, blsOf, Zw.still, ixD, ixN, itemsD, wipe, bindT, bindTs, seens, B.seen, Zw.walk, frzs, setAll, gives, eqOk_int, eqB_int, compL, len2, len3, eqOk_pt, eqB_pt, lstAt, lstPut, slice, cut, sIx, Zw.line, f_is_fraction_of, w, hi, h]
  · have : fracB d = false := by cases d <;> first | rfl | cases ht
    simp [gx_fn, runF, enter, B.par, Zw.execs, Zw.exec, Zw.ev, evl, evs, evg, evO, evAnd, evOr, evConds, evT, R.bind, R.to, R.of, readV, truB, B.look, B.peek, B.frz, B.give, B.still, B.bl?, D.tru, op2, opAdd, opSub, opMul, opMod, opFdiv, opPow, cmp2, cmLt, cmI, cmN, cmIn, D.isNon, bi1, bi2, biLen, biAbs, biInt, biAll, biTuple, biList, biSum, bi2I, ty_int, ty_bool, ty_tup, blsOf, Zw.still, ixD, ixN, itemsD, wipe, bindT, bindTs, seens, B.seen, Zw.walk, frzs, setAll, gives, eqOk_int, eqB_int, compL, len2, len3, eqOk_pt, eqB_pt, lstAt, lstPut, slice, cut, sIx, Zw.line, f_is_fraction_of, ht, this]
def placeB : D → Bool
  | .tup [x, y] => fracB x && fracB y
  | _ => false
theorem place_ok (n : Nat) (d : D) : md.call (n + 3) 15 [.t d] [] = .ok (.t (.bl (placeB d))) [] := by
  rw [u_is_place]
  have w := fun d => cs_t1 (fraction_ok n d)
  rcases isTup d with ⟨xs, rfl⟩ | ht
  · match xs with
    | [] => simp [gx_fn, runF, enter, B.par, Zw.execs, Zw.exec, Zw.ev, evl, evs, evg, evO, evAnd, evOr, evConds, evT, R.bind, R.to, R.of, readV, truB, B.look, B.peek, B.frz, B.give, B.still, B.bl?, D.tru, op2, opAdd, opSub, opMul, opMod, opFdiv, opPow, cmp2, cmLt, cmI, cmN, cmIn, D.isNon, bi1, bi2, biLen, biAbs, biInt, biAll, biTuple, biList, biSum, bi2I, ty_int, ty_bool, ty_tup, blsOf, Zw.still, ixD, ixN, itemsD, wipe, bindT, bindTs, seens, B.seen, Zw.walk, frzs, setAll, gives, eqOk_int, eqB_int, compL, len2, len3, eqOk_pt, eqB_pt, lstAt, lstPut, slice, cut, sIx, Zw.line, f_is_place, placeB]
    | [x] => simp [gx_fn, runF, enter, B.par, Zw.execs, Zw.exec, Zw.ev, evl, evs, evg, evO, evAnd, evOr, evConds, evT, R.bind, R.to, R.of, readV, truB, B.look, B.peek, B.frz, B.give, B.still, B.bl?, D.tru, op2, opAdd, opSub, opMul, opMod, opFdiv, opPow, cmp2, cmLt, cmI, cmN, cmIn, D.isNon, bi1, bi2, biLen, biAbs, biInt, biAll, biTuple, biList, biSum, bi2I, ty_int, ty_bool, ty_tup, blsOf, Zw.still, ixD, ixN, itemsD, wipe, bindT, bindTs, seens, B.seen, Zw.walk, frzs, setAll, gives, eqOk_int, eqB_int, compL, len2, len3, eqOk_pt, eqB_pt, lstAt, lstPut, slice, cut, sIx, Zw.line, f_is_place, placeB, w]
    | [x, y] => simp [gx_fn, runF, enter, B.par, Zw.execs, Zw.exec, Zw.ev, evl, evs, evg, evO, evAnd, evOr, evConds, evT, R.bind, R.to, R.of, readV, truB, B.look, B.peek, B.frz, B.give, B.still, B.bl?, D.tru, op2, opAdd, opSub, opMul, opMod, opFdiv, opPow, cmp2, cmLt, cmI, cmN, cmIn, D.isNon, bi1, bi2, biLen, biAbs, biInt, biAll, biTuple, biList, biSum, bi2I, ty_int, ty_bool, ty_tup, blsOf, Zw.still, ixD, ixN, itemsD, wipe, bindT, bindTs, seens, B.seen, Zw.walk, frzs, setAll, gives, eqOk_int, eqB_int, compL, len2, len3, eqOk_pt, eqB_pt, lstAt, lstPut, slice, cut, sIx, Zw.line, f_is_place, placeB, w]
    | x :: y :: z :: r => simp [gx_fn, runF, enter, B.par, Zw.execs, Zw.exec, Zw.ev, evl, evs, evg, evO, evAnd, evOr, evConds, evT, R.bind, R.to, R.of, readV, truB, B.look, B.peek, B.frz, B.give, B.still, B.bl?, D.tru, op2, opAdd, opSub, opMul, opMod, opFdiv, opPow, cmp2, cmLt, cmI, cmN, cmIn, D.isNon, bi1, bi2, biLen, biAbs, biInt, biAll, biTuple, biList, biSum, bi2I, ty_int, ty_bool, ty_tup, blsOf, Zw.still, ixD, ixN, itemsD, wipe, bindT, bindTs, seens, B.seen, Zw.walk, frzs, setAll, gives, eqOk_int, eqB_int, compL, len2, len3, eqOk_pt, eqB_pt, lstAt, lstPut, slice, cut, sIx, Zw.line, f_is_place, placeB, w]
  · have : placeB d = false := by cases d <;> first | rfl | cases ht
    simp [gx_fn, runF, enter, B.par, Zw.execs, Zw.exec, Zw.ev, evl, evs, evg, evO, evAnd, evOr, evConds, evT, R.bind, R.to, R.of, readV, truB, B.look, B.peek, B.frz, B.give, B.still, B.bl?, D.tru, op2, opAdd, opSub, opMul, opMod, opFdiv, opPow, cmp2, cmLt, cmI, cmN, cmIn, D.isNon, bi1, bi2, biLen, biAbs, biInt, biAll, biTuple, biList, biSum, bi2I, ty_int, ty_bool, ty_tup, blsOf, Zw.still, ixD, ixN, itemsD, wipe, bindT, bindTs, seens, B.seen, Zw.walk, frzs, setAll, gives, eqOk_int, eqB_int, compL, len2, len3, eqOk_pt, eqB_pt, lstAt, lstPut, slice, cut, sIx, Zw.line, f_is_place, ht, this]
end Law
set_option linter.all false
set_option maxRecDepth 100000
set_option maxHeartbeats 4000000
set_option exponentiation.threshold 5000
namespace Law
open Zw PySem
theorem req_wedge_ok (n : Nat) (d : D) (h : wedgeB d = true) : md.call (n + 5) 14 [.t d] [] = .ok (.t .non) [] := by
  rw [u_require_wedge]
  have w := cs_t1 (wedge_ok n d)
  simp [gx_fn, runF, enter, B.par, Zw.execs, Zw.exec, Zw.ev, evl, evs, evg, evO, evAnd, evOr, evConds, evT, R.bind, R.to, R.of, readV, truB, B.look, B.peek, B.frz, B.give, B.still, B.bl?, D.tru, op2, opAdd, opSub, opMul, opMod, opFdiv, opPow, cmp2, cmLt, cmI, cmN, cmIn, D.isNon, bi1, bi2, biLen, biAbs, biInt, biAll, biTuple, biList, biSum, bi2I, ty_int, ty_bool, ty_tup, blsOf, Zw.still, ixD, ixN, itemsD, wipe, bindT, bindTs, seens, B.seen, Zw.walk, frzs, setAll, gives, eqOk_int, eqB_int, compL, len2, len3, eqOk_pt, eqB_pt, lstAt, lstPut, slice, cut, sIx, Zw.line, f_require_wedge, w, h]
def planesD (p q a b c d : Int) : D := .tup (if 0 < a * d - b * c then [.tup [.int b, .int (-a), .int (b * p - a * q)], .tup [.int (-d), .int c, .int (c * q - d * p)]]
  else [.tup [.int b, .int (-a), .int (b * p - a * q)], .tup [.int (-d), .int c, .int (c * q - d * p)], .tup [.int (-a), .int (-b), .int (-(a * p) - b * q)]])
abbrev Wd (p q a b c d : Int) : D := .tup [Pt p q, Pt a b, Pt c d]
theorem Wneg {i : Int} (h : W i) : W (-i) := by unfold W at *; omega
theorem halves_ok (n : Nat) {p q a b c d : Int} (hp : W p) (hq : W q) (ha : W a) (hb : W b) (hc : W c) (hd : W d) : md.call (n + 2) 10 [.t (Wd p q a b c d)] [] = .ok (.t (planesD p q a b c d)) [] := by
  rw [u_halves_in]
  have w := cs_t2 (turn_in_ok n ha hb hc hd)
  have m1 := mulW hb hp
  have m2 := mulW ha hq
  have m3 := mulW hc hq
  have m4 := mulW hd hp
  have m5 := mulW (Wneg ha) hp
  have m6 := mulW hb hq
  unfold planesD
  generalize a * d - b * c = t at *
  by_cases h : 0 < t
  · simp [gx_fn, runF, enter, B.par, Zw.execs, Zw.exec, Zw.ev, evl, evs, evg, evO, evAnd, evOr, evConds, evT, R.bind, R.to, R.of, readV, truB, B.look, B.peek, B.frz, B.give, B.still, B.bl?, D.tru, op2, opAdd, opSub, opMul, opMod, opFdiv, opPow, cmp2, cmLt, cmI, cmN, cmIn, D.isNon, bi1, bi2, biLen, biAbs, biInt, biAll, biTuple, biList, biSum, bi2I, ty_int, ty_bool, ty_tup, blsOf, Zw.still, ixD, ixN, itemsD, wipe, bindT, bindTs, seens, B.seen, Zw.walk, frzs, setAll, gives, eqOk_int, eqB_int, compL, len2, len3, eqOk_pt, eqB_pt, lstAt, lstPut, slice, cut, sIx, Zw.line, f_halves_in, w, m1, m2, m3, m4, h]
  · simp [gx_fn, runF, enter, B.par, Zw.execs, Zw.exec, Zw.ev, evl, evs, evg, evO, evAnd, evOr, evConds, evT, R.bind, R.to, R.of, readV, truB, B.look, B.peek, B.frz, B.give, B.still, B.bl?, D.tru, op2, opAdd, opSub, opMul, opMod, opFdiv, opPow, cmp2, cmLt, cmI, cmN, cmIn, D.isNon, bi1, bi2, biLen, biAbs, biInt, biAll, biTuple, biList, biSum, bi2I, ty_int, ty_bool, ty_tup, blsOf, Zw.still, ixD, ixN, itemsD, wipe, bindT, bindTs, seens, B.seen, Zw.walk, frzs, setAll, gives, eqOk_int, eqB_int, compL, len2, len3, eqOk_pt, eqB_pt, lstAt, lstPut, slice, cut, sIx, Zw.line, f_halves_in, w, m1, m2, m3, m4, m5, m6, h, Int.neg_mul]
theorem lplanes_ok (n : Nat) {p q a b c d : Int} (hp : W p) (hq : W q) (ha : W a) (hb : W b) (hc : W c) (hd : W d) : md.call (n + 2) 25 [.t (Wd p q a b c d)] [] = .ok (.t (planesD p q a b c d)) [] := by
  rw [u__law_planes]
  have w := cs_t2 (lturn_ok n ha hb hc hd)
  have m1 := mulW hb hp
  have m2 := mulW ha hq
  have m3 := mulW hc hq
  have m4 := mulW hd hp
  have m5 := mulW ha hp
  have m6 := mulW hb hq
  unfold planesD
  generalize a * d - b * c = t at *
  by_cases h : 0 < t
  · simp [gx_fn, runF, enter, B.par, Zw.execs, Zw.exec, Zw.ev, evl, evs, evg, evO, evAnd, evOr, evConds, evT, R.bind, R.to, R.of, readV, truB, B.look, B.peek, B.frz, B.give, B.still, B.bl?, D.tru, op2, opAdd, opSub, opMul, opMod, opFdiv, opPow, cmp2, cmLt, cmI, cmN, cmIn, D.isNon, bi1, bi2, biLen, biAbs, biInt, biAll, biTuple, biList, biSum, bi2I, ty_int, ty_bool, ty_tup, blsOf, Zw.still, ixD, ixN, itemsD, wipe, bindT, bindTs, seens, B.seen, Zw.walk, frzs, setAll, gives, eqOk_int, eqB_int, compL, len2, len3, eqOk_pt, eqB_pt, lstAt, lstPut, slice, cut, sIx, Zw.line, f__law_planes, w, m1, m2, m3, m4, h]
  · simp [gx_fn, runF, enter, B.par, Zw.execs, Zw.exec, Zw.ev, evl, evs, evg, evO, evAnd, evOr, evConds, evT, R.bind, R.to, R.of, readV, truB, B.look, B.peek, B.frz, B.give, B.still, B.bl?, D.tru, op2, opAdd, opSub, opMul, opMod, opFdiv, opPow, cmp2, cmLt, cmI, cmN, cmIn, D.isNon, bi1, bi2, biLen, biAbs, biInt, biAll, biTuple, biList, biSum, bi2I, ty_int, ty_bool, ty_tup, blsOf, Zw.still, ixD, ixN, itemsD, wipe, bindT, bindTs, seens, B.seen, Zw.walk, frzs, setAll, gives, eqOk_int, eqB_int, compL, len2, len3, eqOk_pt, eqB_pt, lstAt, lstPut, slice, cut, sIx, Zw.line, f__law_planes, w, m1, m2, m3, m4, m5, m6, h]
theorem half_planes_ok (n : Nat) {p q a b c d : Int} (hw : wedgeB (Wd p q a b c d) = true) (hp : W p) (hq : W q) (ha : W a) (hb : W b) (hc : W c) (hd : W d) : md.call (n + 6) 16 [.t (Wd p q a b c d)] [] = .ok (.t (planesD p q a b c d)) [] := by
  rw [u_half_planes]
  have w1 := cs_t1 (req_wedge_ok n _ hw)
  have w2 := cs_t1 (halves_ok (n + 3) hp hq ha hb hc hd)
  simp [gx_fn, runF, enter, B.par, Zw.execs, Zw.exec, Zw.ev, evl, evs, evg, evO, evAnd, evOr, evConds, evT, R.bind, R.to, R.of, readV, truB, B.look, B.peek, B.frz, B.give, B.still, B.bl?, D.tru, op2, opAdd, opSub, opMul, opMod, opFdiv, opPow, cmp2, cmLt, cmI, cmN, cmIn, D.isNon, bi1, bi2, biLen, biAbs, biInt, biAll, biTuple, biList, biSum, bi2I, ty_int, ty_bool, ty_tup, blsOf, Zw.still, ixD, ixN, itemsD, wipe, bindT, bindTs, seens, B.seen, Zw.walk, frzs, setAll, gives, eqOk_int, eqB_int, compL, len2, len3, eqOk_pt, eqB_pt, lstAt, lstPut, slice, cut, sIx, Zw.line, f_half_planes, w1, w2]
end Law
set_option linter.all false
set_option maxRecDepth 100000
set_option maxHeartbeats 4000000
set_option exponentiation.threshold 5000
namespace Law
open Zw PySem
/-! ### drawing -/
abbrev bag (g b : Int) : O := .lst [.int g, .int b]
def Gd (g b : Int) : Prop := 0 ≤ g ∧ 0 ≤ b ∧ b < 2 ^ 61
theorem draw_ok (n : Nat) {g b m : Int} (h : Gd g b) (hm : 0 < m) (hm2 : m < 10 ^ 60) : ∃ v g' b', md.call (n + 1) 20 [.r 0, .t (.int m)] [bag g b] = .ok (.t (.int v)) [bag g' b'] ∧ 0 ≤ v ∧ v < m ∧ Gd g' b' := by
  obtain ⟨h1, h2, h3⟩ := h
  have hl : m.natAbs.log2 < 9000 := Nat.lt_trans (log_small (k := 200) (by decide) (show m.natAbs < 2 ^ 200 by omega)) (by decide)
  rw [u__law_draw]
  by_cases hg : 0 < g
  · refine ⟨g % m, g / m, b, ?_, Int.emod_nonneg _ (by omega), Int.emod_lt_of_pos _ hm, Int.ediv_nonneg h1 (by omega), h2, h3⟩
    simp [gx_fn, runF, enter, B.par, Zw.execs, Zw.exec, Zw.ev, evl, evs, evg, evO, evAnd, evOr, evConds, evT, R.bind, R.to, R.of, readV, truB, B.look, B.peek, B.frz, B.give, B.still, B.bl?, D.tru, op2, opAdd, opSub, opMul, opMod, opFdiv, opPow, cmp2, cmLt, cmI, cmN, cmIn, D.isNon, bi1, bi2, biLen, biAbs, biInt, biAll, biTuple, biList, biSum, bi2I, ty_int, ty_bool, ty_tup, blsOf, Zw.still, ixD, ixN, itemsD, wipe, bindT, bindTs, seens, B.seen, Zw.walk, frzs, setAll, gives, eqOk_int, eqB_int, compL, len2, len3, eqOk_pt, eqB_pt, lstAt, lstPut, slice, cut, sIx, Zw.line, f__law_draw, hg, hm, hl]
  · have mm : mulOk b 6364136223 = true := mulOk_of (Nat.lt_of_lt_of_le (show b.natAbs < 2 ^ 62 by omega) (by decide)) (by decide)
    have hp : powOk 2 61 = true := by decide
    have l2 : (65537 : Nat).log2 < 9000 := by decide
    refine ⟨((b * 6364136223 + 1442695041) % (2 ^ 61 - 1)) / 65537 % m, g, (b * 6364136223 + 1442695041) % (2 ^ 61 - 1), ?_, Int.emod_nonneg _ (by omega), Int.emod_lt_of_pos _ hm, h1, Int.emod_nonneg _ (by decide), Int.lt_trans (Int.emod_lt_of_pos _ (by decide)) (by decide)⟩
    simp [gx_fn, runF, enter, B.par, Zw.execs, Zw.exec, Zw.ev, evl, evs, evg, evO, evAnd, evOr, evConds, evT, R.bind, R.to, R.of, readV, truB, B.look, B.peek, B.frz, B.give, B.still, B.bl?, D.tru, op2, opAdd, opSub, opMul, opMod, opFdiv, opPow, cmp2, cmLt, cmI, cmN, cmIn, D.isNon, bi1, bi2, biLen, biAbs, biInt, biAll, biTuple, biList, biSum, bi2I, ty_int, ty_bool, ty_tup, blsOf, Zw.still, ixD, ixN, itemsD, wipe, bindT, bindTs, seens, B.seen, Zw.walk, frzs, setAll, gives, eqOk_int, eqB_int, compL, len2, len3, eqOk_pt, eqB_pt, lstAt, lstPut, slice, cut, sIx, Zw.line, f__law_draw, hg, hm, mm, hp, l2]
theorem forL_inv {n : Nat} {f : D → Zw.Env → Store → RS} (P : Zw.Env → Store → Prop) (h : ∀ x ρ s, P ρ s → ∃ ρ' s', f x ρ s = .nx ρ' s' ∧ P ρ' s') : ∀ (xs : List D) (ρ : Zw.Env) (s : Store), P ρ s → ∃ ρ' s', forL false n f xs ρ s = .nx ρ' s' ∧ P ρ' s'
  | [], ρ, s, p => ⟨ρ, s, rfl, p⟩
  | x :: xs, ρ, s, p => by
    obtain ⟨ρ1, s1, e1, p1⟩ := h x ρ s p
    obtain ⟨ρ2, s2, e2, p2⟩ := forL_inv P h xs ρ1 s1 p1
    refine ⟨ρ2, s2, ?_, p2⟩
    rw [forL, e1]
    exact e2
theorem one_of_ok (n : Nat) {g b : Int} {xs : List D} (h : Gd g b) (hx : xs ≠ []) (hl : xs.length < 1000) : ∃ v g' b', md.call (n + 2) 21 [.r 0, .t (.lst xs)] [bag g b] = .ok (.t v) [bag g' b'] ∧ v ∈ xs ∧ Gd g' b' := by
  have h0 : 0 < xs.length := List.length_pos_iff.mpr hx
  obtain ⟨v, g', b', e, v0, v1, gd⟩ := draw_ok n (m := (xs.length : Int)) h (by omega) (by omega)
  have e := cs_r2 e
  have hv : v.toNat < xs.length := by omega
  refine ⟨xs[v.toNat], g', b', ?_, List.getElem_mem _, gd⟩
  rw [u__law_one_of]
  simp [gx_fn, runF, enter, B.par, Zw.execs, Zw.exec, Zw.ev, evl, evs, evg, evO, evAnd, evOr, evConds, evT, R.bind, R.to, R.of, readV, truB, B.look, B.peek, B.frz, B.give, B.still, B.bl?, D.tru, op2, opAdd, opSub, opMul, opMod, opFdiv, opPow, cmp2, cmLt, cmI, cmN, cmIn, D.isNon, bi1, bi2, biLen, biAbs, biInt, biAll, biTuple, biList, biSum, bi2I, ty_int, ty_bool, ty_tup, blsOf, Zw.still, ixD, ixN, itemsD, wipe, bindT, bindTs, seens, B.seen, Zw.walk, frzs, setAll, gives, eqOk_int, eqB_int, compL, len2, len3, eqOk_pt, eqB_pt, lstAt, lstPut, slice, cut, sIx, Zw.line, f__law_one_of, e, v0, v1, hv]
def Dir (size x y : Int) : Prop := x.natAbs ≤ size.natAbs ∧ y.natAbs ≤ size.natAbs
theorem direction_ok (n : Nat) {g b size : Int} (h : Gd g b) (hs : 0 < size) (hs2 : size ≤ 10 ^ 50) :
    ∃ x y g' b', md.call (n + 2) 28 [.r 0, .t (.int size)] [bag g b] = .ok (.t (Pt x y)) [bag g' b'] ∧ Dir size x y ∧ ¬(x = 0 ∧ y = 0) ∧ Gd g' b' := by
  have m2 : mulOk 2 size = true := mulOk_of (by decide) (Nat.lt_of_lt_of_le (show size.natAbs < 2 ^ 200 by omega) (by decide))
  rw [u__law_direction]
  unfold f__law_direction
  generalize hC : (CS.for_ false 1 [(.cst (.int 9))] (.nm 3) [(.ite (.cmp .eq (.var 2) (.tup [(false, (.cst (.int 0))), (false, (.cst (.int 0)))])) [(.asg 2 (.tup [(false, (.bin .sub (.call 20 [(.var 0), (.bin .add (.bin .mul (.cst (.int 2)) (.var 1)) (.cst (.int 1)))]) (.var 1))), (false, (.bin .sub (.call 20 [(.var 0), (.bin .add (.bin .mul (.cst (.int 2)) (.var 1)) (.cst (.int 1)))]) (.var 1)))]))] [])]) = C
  obtain ⟨ρ', s', eC, x, y, g', b', o, hρ, hs', hd, gd⟩ : ∃ ρ' s', Zw.exec (gx (n + 1)) C [some (.r 0), some (.t (.int size)), some (.t (Pt 0 0)), none] [bag g b] = .nx ρ' s' ∧ ∃ x y g' b' o, ρ' = [some (.r 0), some (.t (.int size)), some (.t (Pt x y)), o] ∧ s' = [bag g' b'] ∧ Dir size x y ∧ Gd g' b' := by
    rw [← hC, exec_for_of (bs := [.t (.int 9)]) (s1 := [bag g b]) (by simp [evl, ev, R.bind, B.still]) (show (frzs [.t (.int 9)]).bind (walk 1) = some ((List.range 9).map fun (k : Nat) => D.int (0 + (k : Int))) from rfl)]
    refine forL_inv (fun ρ s => ∃ x y g b o, ρ = [some (.r 0), some (.t (.int size)), some (.t (Pt x y)), o] ∧ s = [bag g b] ∧ Dir size x y ∧ Gd g b) ?_ _ _ _ ⟨0, 0, g, b, none, rfl, rfl, ⟨by simp, by simp⟩, h⟩
    rintro z ρ s ⟨x, y, g, b, o, rfl, rfl, hd, gd⟩
    cases h0 : (x == 0 && y == 0) with
    | false => exact ⟨[some (.r 0), some (.t (.int size)), some (.t (Pt x y)), some (.t z)], [bag g b], by simp [gx_fn, runF, enter, B.par, Zw.execs, Zw.exec, Zw.ev, evl, evs, evg, evO, evAnd, evOr, evConds, evT, R.bind, R.to, R.of, readV, truB, B.look, B.peek, B.frz, B.give, B.still, B.bl?, D.tru, op2, opAdd, opSub, opMul, opMod, opFdiv, opPow, cmp2, cmLt, cmI, cmN, cmIn, D.isNon, bi1, bi2, biLen, biAbs, biInt, biAll, biTuple, biList, biSum, bi2I, ty_int, ty_bool, ty_tup, blsOf, Zw.still, ixD, ixN, itemsD, wipe, bindT, bindTs, seens, B.seen, Zw.walk, frzs, setAll, gives, eqOk_int, eqB_int, compL, len2, len3, eqOk_pt, eqB_pt, lstAt, lstPut, slice, cut, sIx, Zw.line, h0], x, y, g, b, some (.t z), rfl, rfl, hd, gd⟩
    | true =>
      obtain ⟨v, g1, b1, e1, p1, p2, gd1⟩ := draw_ok n (m := 2 * size + 1) gd (by omega) (by omega)
      obtain ⟨u, g2, b2, e2, q1, q2, gd2⟩ := draw_ok n (m := 2 * size + 1) gd1 (by omega) (by omega)
      have e1 := cs_r2 e1
      have e2 := cs_r2 e2
      exact ⟨[some (.r 0), some (.t (.int size)), some (.t (Pt (v - size) (u - size))), some (.t z)], [bag g2 b2], by simp [gx_fn, runF, enter, B.par, Zw.execs, Zw.exec, Zw.ev, evl, evs, evg, evO, evAnd, evOr, evConds, evT, R.bind, R.to, R.of, readV, truB, B.look, B.peek, B.frz, B.give, B.still, B.bl?, D.tru, op2, opAdd, opSub, opMul, opMod, opFdiv, opPow, cmp2, cmLt, cmI, cmN, cmIn, D.isNon, bi1, bi2, biLen, biAbs, biInt, biAll, biTuple, biList, biSum, bi2I, ty_int, ty_bool, ty_tup, blsOf, Zw.still, ixD, ixN, itemsD, wipe, bindT, bindTs, seens, B.seen, Zw.walk, frzs, setAll, gives, eqOk_int, eqB_int, compL, len2, len3, eqOk_pt, eqB_pt, lstAt, lstPut, slice, cut, sIx, Zw.line, h0, m2, e1, e2], v - size, u - size, g2, b2, some (.t z), rfl, rfl, ⟨by omega, by omega⟩, gd2⟩
  subst hρ hs'
  cases h0 : (x == 0 && y == 0) with
  | false =>
    refine ⟨x, y, g', b', ?_, hd, fun z => by simp [z.1, z.2] at h0, gd⟩
    simp [gx_fn, runF, enter, B.par, Zw.execs, Zw.exec, Zw.ev, evl, evs, evg, evO, evAnd, evOr, evConds, evT, R.bind, R.to, R.of, readV, truB, B.look, B.peek, B.frz, B.give, B.still, B.bl?, D.tru, op2, opAdd, opSub, opMul, opMod, opFdiv, opPow, cmp2, cmLt, cmI, cmN, cmIn, D.isNon, bi1, bi2, biLen, biAbs, biInt, biAll, biTuple, biList, biSum, bi2I, ty_int, ty_bool, ty_tup, blsOf, Zw.still, ixD, ixN, itemsD, wipe, bindT, bindTs, seens, B.seen, Zw.walk, frzs, setAll, gives, eqOk_int, eqB_int, compL, len2, len3, eqOk_pt, eqB_pt, lstAt, lstPut, slice, cut, sIx, Zw.line, eC, h0]
  | true =>
    refine ⟨1, 0, g', b', ?_, ⟨by omega, by omega⟩, fun z => absurd z.1 (by decide), gd⟩
    simp [gx_fn, runF, enter, B.par, Zw.execs, Zw.exec, Zw.ev, evl, evs, evg, evO, evAnd, evOr, evConds, evT, R.bind, R.to, R.of, readV, truB, B.look, B.peek, B.frz, B.give, B.still, B.bl?, D.tru, op2, opAdd, opSub, opMul, opMod, opFdiv, opPow, cmp2, cmLt, cmI, cmN, cmIn, D.isNon, bi1, bi2, biLen, biAbs, biInt, biAll, biTuple, biList, biSum, bi2I, ty_int, ty_bool, ty_tup, blsOf, Zw.still, ixD, ixN, itemsD, wipe, bindT, bindTs, seens, B.seen, Zw.walk, frzs, setAll, gives, eqOk_int, eqB_int, compL, len2, len3, eqOk_pt, eqB_pt, lstAt, lstPut, slice, cut, sIx, Zw.line, eC, h0]
end Law
set_option linter.all false
set_option maxRecDepth 100000
set_option maxHeartbeats 4000000
set_option exponentiation.threshold 5000
namespace Law
open Zw PySem
theorem point_of {a b : Int} (ha : a.natAbs < 10 ^ 60) (hb : b.natAbs < 10 ^ 60) : pointB (Pt a b) = true := by
  simp [pointB, wholeB]; omega
theorem dir_of {a b : Int} (ha : a.natAbs < 10 ^ 60) (hb : b.natAbs < 10 ^ 60) (h : ¬(a = 0 ∧ b = 0)) : dirB (Pt a b) = true := by
  unfold dirB
  rw [point_of ha hb, eqB_pt]
  simp
  omega
theorem sq_nn (b : Int) : 0 ≤ b * b := by
  rcases Int.le_total 0 b with h | h
  · exact Int.mul_nonneg h h
  · exact Int.mul_nonneg_of_nonpos_of_nonpos h h
theorem wedge_of {p q a b c d : Int} (hp : p.natAbs < 10 ^ 60) (hq : q.natAbs < 10 ^ 60) (ha : a.natAbs < 10 ^ 60) (hb : b.natAbs < 10 ^ 60) (hc : c.natAbs < 10 ^ 60) (hd : d.natAbs < 10 ^ 60)
    (h1 : ¬(a = 0 ∧ b = 0)) (h2 : ¬(c = 0 ∧ d = 0)) (h : 0 < a * d - b * c ∨ (a * d - b * c = 0 ∧ 0 < a * c + b * d)) : wedgeB (Wd p q a b c d) = true := by
  have e : wedgeB (Wd p q a b c d) = (pointB (Pt p q) && (dirB (Pt a b) && (dirB (Pt c d) && (decide (0 < a * d - b * c) || (decide (a * d - b * c = 0) && decide (0 < a * c + b * d)))))) := rfl
  rw [e, point_of hp hq, dir_of ha hb h1, dir_of hc hd h2]
  rcases h with h | ⟨h, h'⟩
  · rw [decide_eq_true h]; rfl
  · rw [decide_eq_true h, decide_eq_true h']; simp
theorem sq_pos {a b : Int} (h : ¬(a = 0 ∧ b = 0)) : 0 < a * a + b * b := by
  rcases Int.lt_trichotomy a 0 with ha | ha | ha
  · have := Int.mul_pos_of_neg_of_neg ha ha
    have : 0 ≤ b * b := sq_nn b
    omega
  · subst ha
    have hb : b ≠ 0 := fun z => h ⟨rfl, z⟩
    rcases Int.lt_trichotomy b 0 with hb | hb | hb
    · have := Int.mul_pos_of_neg_of_neg hb hb; omega
    · exact absurd hb (by assumption)
    · have := Int.mul_pos hb hb; omega
  · have := Int.mul_pos ha ha
    have : 0 ≤ b * b := sq_nn b
    omega
def Bz (size i : Int) : Prop := i.natAbs ≤ 3 * size.natAbs
theorem wedge_draw_ok (n : Nat) {g b size : Int} (h : Gd g b) (hs : 0 < size) (hs2 : size ≤ 10 ^ 50) :
    ∃ p q a c d e g' b', md.call (n + 3) 29 [.r 0, .t (.int size)] [bag g b] = .ok (.t (Wd p q a c d e)) [bag g' b'] ∧ (Bz size p ∧ Bz size q ∧ Bz size a ∧ Bz size c ∧ Bz size d ∧ Bz size e) ∧ wedgeB (Wd p q a c d e) = true ∧ Gd g' b' := by
  have m2 : mulOk 2 size = true := mulOk_of (by decide) (Nat.lt_of_lt_of_le (show size.natAbs < 2 ^ 200 by omega) (by decide))
  obtain ⟨v, g1, b1, e1, p1, p2, gd1⟩ := draw_ok (n + 1) (m := 2 * size + 1) h (by omega) (by omega)
  obtain ⟨u, g2, b2, e2, q1, q2, gd2⟩ := draw_ok (n + 1) (m := 2 * size + 1) gd1 (by omega) (by omega)
  obtain ⟨x, y, g3, b3, e3, ⟨d1, d2⟩, nz, gd3⟩ := direction_ok n gd2 hs hs2
  obtain ⟨k, g4, b4, e4, k1, k2, gd4⟩ := draw_ok (n + 1) (m := 8) gd3 (by decide) (by decide)
  have e1 := cs_r2 e1
  have e2 := cs_r2 e2
  have e3 := cs_r2 e3
  have e4 := cs_r2 e4
  rw [u__law_wedge]
  by_cases hk : k = 0
  · subst hk
    obtain ⟨j, g5, b5, e5, j1, j2, gd5⟩ := draw_ok (n + 1) (m := 3) gd4 (by decide) (by decide)
    have e5 := cs_r2 e5
    have mx : mulOk (1 + j) x = true := mulOk_of (Nat.lt_of_lt_of_le (show (1 + j).natAbs < 2 ^ 200 by omega) (by decide)) (Nat.lt_of_lt_of_le (show x.natAbs < 2 ^ 200 by omega) (by decide))
    have my : mulOk (1 + j) y = true := mulOk_of (Nat.lt_of_lt_of_le (show (1 + j).natAbs < 2 ^ 200 by omega) (by decide)) (Nat.lt_of_lt_of_le (show y.natAbs < 2 ^ 200 by omega) (by decide))
    have bx : ((1 + j) * x).natAbs ≤ 3 * size.natAbs := by
      rw [Int.natAbs_mul]
      exact Nat.mul_le_mul (show (1 + j).natAbs ≤ 3 by omega) d1
    have hby : ((1 + j) * y).natAbs ≤ 3 * size.natAbs := by
      rw [Int.natAbs_mul]
      exact Nat.mul_le_mul (show (1 + j).natAbs ≤ 3 by omega) d2
    refine ⟨v - size, u - size, x, y, (1 + j) * x, (1 + j) * y, g5, b5, ?_, ⟨by unfold Bz; omega, by unfold Bz; omega, by unfold Bz; omega, by unfold Bz; omega, bx, hby⟩, wedge_of (by omega) (by omega) (by omega) (by omega) (by omega) (by omega) nz (fun z => nz ?_) (.inr ⟨?_, ?_⟩), gd5⟩
    · simp [gx_fn, runF, enter, B.par, Zw.execs, Zw.exec, Zw.ev, evl, evs, evg, evO, evAnd, evOr, evConds, evT, R.bind, R.to, R.of, readV, truB, B.look, B.peek, B.frz, B.give, B.still, B.bl?, D.tru, op2, opAdd, opSub, opMul, opMod, opFdiv, opPow, cmp2, cmLt, cmI, cmN, cmIn, D.isNon, bi1, bi2, biLen, biAbs, biInt, biAll, biTuple, biList, biSum, bi2I, ty_int, ty_bool, ty_tup, blsOf, Zw.still, ixD, ixN, itemsD, wipe, bindT, bindTs, seens, B.seen, Zw.walk, frzs, setAll, gives, eqOk_int, eqB_int, compL, len2, len3, eqOk_pt, eqB_pt, lstAt, lstPut, slice, cut, sIx, Zw.line, f__law_wedge, m2, e1, e2, e3, e4, e5, mx, my]
    · have hj : 1 + j ≠ 0 := by omega
      exact ⟨(Int.mul_eq_zero.mp z.1).resolve_left hj, (Int.mul_eq_zero.mp z.2).resolve_left hj⟩
    · rw [Int.mul_left_comm x, Int.mul_left_comm y, Int.mul_comm y x, Int.sub_self]
    · rw [Int.mul_left_comm x, Int.mul_left_comm y, ← Int.mul_add]
      exact Int.mul_pos (by omega) (sq_pos nz)
  · have hk0 : (k == 0) = false := by simpa using hk
    obtain ⟨z, w, g5, b5, e5, ⟨d3, d4⟩, nz2, gd5⟩ := direction_ok n gd4 hs hs2
    have e5 := cs_r2 e5
    have wt := fun s => cs_t2 (lturn_ok (n + 1) (a := x) (b := y) (c := z) (d := w) (show x.natAbs < 10 ^ 62 by omega) (show y.natAbs < 10 ^ 62 by omega) (show z.natAbs < 10 ^ 62 by omega) (show w.natAbs < 10 ^ 62 by omega)) s
    rcases Int.lt_trichotomy (x * w - y * z) 0 with ht | ht | ht
    · refine ⟨v - size, u - size, z, w, x, y, g5, b5, ?_, ⟨by unfold Bz; omega, by unfold Bz; omega, by unfold Bz; omega, by unfold Bz; omega, by unfold Bz; omega, by unfold Bz; omega⟩, wedge_of (by omega) (by omega) (by omega) (by omega) (by omega) (by omega) nz2 nz (.inl ?_), gd5⟩
      · generalize x * w - y * z = t at *
        have t0 : (t == 0) = false := by simp; omega
        have t1 : ¬ 0 < t := by omega
        simp [gx_fn, runF, enter, B.par, Zw.execs, Zw.exec, Zw.ev, evl, evs, evg, evO, evAnd, evOr, evConds, evT, R.bind, R.to, R.of, readV, truB, B.look, B.peek, B.frz, B.give, B.still, B.bl?, D.tru, op2, opAdd, opSub, opMul, opMod, opFdiv, opPow, cmp2, cmLt, cmI, cmN, cmIn, D.isNon, bi1, bi2, biLen, biAbs, biInt, biAll, biTuple, biList, biSum, bi2I, ty_int, ty_bool, ty_tup, blsOf, Zw.still, ixD, ixN, itemsD, wipe, bindT, bindTs, seens, B.seen, Zw.walk, frzs, setAll, gives, eqOk_int, eqB_int, compL, len2, len3, eqOk_pt, eqB_pt, lstAt, lstPut, slice, cut, sIx, Zw.line, f__law_wedge, m2, e1, e2, e3, e4, hk0, e5, wt, t0, t1]
      · rw [Int.mul_comm z y, Int.mul_comm w x]; omega
    · have wt2 := fun s => cs_t2 (lturn_ok (n + 1) (a := x) (b := y) (c := -y) (d := x) (show x.natAbs < 10 ^ 62 by omega) (show y.natAbs < 10 ^ 62 by omega) (show (-y).natAbs < 10 ^ 62 by omega) (show x.natAbs < 10 ^ 62 by omega)) s
      have hp : 0 < x * x - y * -y := by rw [Int.mul_neg, Int.sub_neg]; exact sq_pos nz
      refine ⟨v - size, u - size, x, y, -y, x, g5, b5, ?_, ⟨by unfold Bz; omega, by unfold Bz; omega, by unfold Bz; omega, by unfold Bz; omega, by unfold Bz; omega, by unfold Bz; omega⟩, wedge_of (by omega) (by omega) (by omega) (by omega) (by omega) (by omega) nz (fun q => nz ⟨q.2, by omega⟩) (.inl hp), gd5⟩
      · rw [ht] at wt
        generalize x * x - y * -y = t at *
        simp [gx_fn, runF, enter, B.par, Zw.execs, Zw.exec, Zw.ev, evl, evs, evg, evO, evAnd, evOr, evConds, evT, R.bind, R.to, R.of, readV, truB, B.look, B.peek, B.frz, B.give, B.still, B.bl?, D.tru, op2, opAdd, opSub, opMul, opMod, opFdiv, opPow, cmp2, cmLt, cmI, cmN, cmIn, D.isNon, bi1, bi2, biLen, biAbs, biInt, biAll, biTuple, biList, biSum, bi2I, ty_int, ty_bool, ty_tup, blsOf, Zw.still, ixD, ixN, itemsD, wipe, bindT, bindTs, seens, B.seen, Zw.walk, frzs, setAll, gives, eqOk_int, eqB_int, compL, len2, len3, eqOk_pt, eqB_pt, lstAt, lstPut, slice, cut, sIx, Zw.line, f__law_wedge, m2, e1, e2, e3, e4, hk0, e5, wt, wt2, hp]
    · refine ⟨v - size, u - size, x, y, z, w, g5, b5, ?_, ⟨by unfold Bz; omega, by unfold Bz; omega, by unfold Bz; omega, by unfold Bz; omega, by unfold Bz; omega, by unfold Bz; omega⟩, wedge_of (by omega) (by omega) (by omega) (by omega) (by omega) (by omega) nz nz2 (.inl ht), gd5⟩
      · generalize x * w - y * z = t at *
        have t0 : (t == 0) = false := by simp; omega
        simp [gx_fn, runF, enter, B.par, Zw.execs, Zw.exec, Zw.ev, evl, evs, evg, evO, evAnd, evOr, evConds, evT, R.bind, R.to, R.of, readV, truB, B.look, B.peek, B.frz, B.give, B.still, B.bl?, D.tru, op2, opAdd, opSub, opMul, opMod, opFdiv, opPow, cmp2, cmLt, cmI, cmN, cmIn, D.isNon, bi1, bi2, biLen, biAbs, biInt, biAll, biTuple, biList, biSum, bi2I, ty_int, ty_bool, ty_tup, blsOf, Zw.still, ixD, ixN, itemsD, wipe, bindT, bindTs, seens, B.seen, Zw.walk, frzs, setAll, gives, eqOk_int, eqB_int, compL, len2, len3, eqOk_pt, eqB_pt, lstAt, lstPut, slice, cut, sIx, Zw.line, f__law_wedge, m2, e1, e2, e3, e4, hk0, e5, wt, t0, ht]
end Law
set_option linter.all false
set_option maxRecDepth 100000
set_option maxHeartbeats 4000000
set_option exponentiation.threshold 5000
namespace Law
open Zw PySem
/-- a comprehension by a judge -/
theorem map_all (b : D → Bool) : ∀ xs : List D, xs.filterMap (fun x => some (D.bl (b x))) = xs.map fun x => D.bl (b x)
  | [] => rfl
  | x :: xs => by rw [List.filterMap_cons, map_all b xs]; rfl
theorem bls_fine (b : D → Bool) : ∀ xs : List D, D.Fines (xs.map fun x => D.bl (b x)) ∧ D.deps (xs.map fun x => D.bl (b x)) = 0 ∧ D.wts (xs.map fun x => D.bl (b x)) = 7 * xs.length
  | [] => ⟨trivial, rfl, rfl⟩
  | x :: xs => by
    obtain ⟨h1, h2, h3⟩ := bls_fine b xs
    simp only [List.map_cons, D.Fines, D.deps, D.wts, D.Fine, D.dep, D.wt, h2, h3, List.length_cons]
    exact ⟨⟨trivial, h1⟩, rfl, by omega⟩
theorem bls_repr (b : D → Bool) {xs : List D} (h : xs.length ≤ 1000) : reprOk (.lst (xs.map fun x => D.bl (b x))) = true := by
  obtain ⟨h1, h2, h3⟩ := bls_fine b xs
  refine reprOk_of (by rw [D.Fine]; exact h1) ?_ ?_
  · rw [D.wt, h3]; unfold Zw.line; omega
  · rw [D.dep, h2]; decide
theorem str_ok (s : Str) : eqOk (.str s) (.str s) = true := rfl
theorem execs_split (G : Gx) (k : Nat) : ∀ (cs : List CS) (ρ : Zw.Env) (s : Store), Zw.execs G cs ρ s = match Zw.execs G (cs.take k) ρ s with
    | .nx ρ' s' => Zw.execs G (cs.drop k) ρ' s'
    | r => r := by
  induction k with
  | zero => intro cs ρ s; simp [Zw.execs]
  | succ k ih =>
    intro cs ρ s
    cases cs with
    | nil => simp [Zw.execs]
    | cons c cs =>
      rw [List.take_succ_cons, List.drop_succ_cons, Zw.execs, Zw.execs]
      cases Zw.exec G c ρ s <;> simp
      exact ih cs _ _
theorem execs_nx {G : Gx} (k : Nat) {cs : List CS} {ρ ρ' : Zw.Env} {s s' : Store} (h : Zw.execs G (cs.take k) ρ s = .nx ρ' s') : Zw.execs G cs ρ s = Zw.execs G (cs.drop k) ρ' s' := by
  rw [execs_split G k, h]
theorem wFine (i : Int) (h : i.natAbs < 10 ^ 110) : i.natAbs < 2 ^ 1900 := Nat.lt_of_lt_of_le h (by decide)
end Law
set_option linter.all false
set_option maxRecDepth 100000
set_option maxHeartbeats 4000000
set_option exponentiation.threshold 5000
namespace Law
open Zw PySem
theorem bag_ok (n : Nat) {ns : List Int} {at_ : Int} (h0 : 0 ≤ at_) (h4 : at_ < 4) : ∃ g b, md.call (n + 1) 19 [.sc (.lst (ns.map D.int)), .t (.int at_)] [] = .ok (.own (.lst [.int g, .int b])) [] ∧ Gd g b := by
  rw [u__law_bag]
  have p1 : powOk 10 18 = true := by decide
  have p2 : powOk 10 60 = true := by decide
  have p3 : powOk 10 12 = true := by decide
  have p4 : powOk 2 61 = true := by decide
  have m1 : mulOk 1000000000000000000000000000000000000000000000000000000000000 1000000000000000000000000000000000000000000000000000000000000 = true := by decide +kernel
  have m3 : mulOk 509 at_ = true := mulOk_of (by decide) (Nat.lt_of_lt_of_le (show at_.natAbs < 2 ^ 60 by omega) (by decide))
  have m4 : ∀ b : Bool, mulOk 17 (if b = true then 1 else 0) = true := fun b => by cases b <;> decide +kernel
  have m5 : mulOk 89 at_ = true := mulOk_of (by decide) (Nat.lt_of_lt_of_le (show at_.natAbs < 2 ^ 60 by omega) (by decide))
  have m2 : ∀ c : Int, mulOk ((if c < 0 then -c else c) % 1000000000039) 10007 = true := fun c => mulOk_of (Nat.lt_of_lt_of_le (show ((if c < 0 then -c else c) % 1000000000039).natAbs < 2 ^ 60 by
    have h1 := Int.emod_nonneg (if c < 0 then -c else c) (show (1000000000039 : Int) ≠ 0 by decide)
    have h2 := Int.emod_lt_of_pos (if c < 0 then -c else c) (show (0 : Int) < 1000000000039 by decide)
    generalize (if c < 0 then -c else c) % 1000000000039 = z at *
    omega) (by decide)) (by decide)
  have fin : ∀ c : Int, ∃ g b, runF (gx n) ⟨3, 5, f__law_bag.body.drop 1⟩ [.sc (.lst (ns.map D.int)), .t (.int at_), .t (.int c)] [] = .ok (.own (.lst [.int g, .int b])) [] ∧ Gd g b := by
    intro c
    have m2 := m2 c
    have q1 : mulOk 17 1 = true := by decide +kernel
    have q0 : mulOk 17 0 = true := by decide +kernel
    by_cases hc : c < 0
    · rw [if_pos hc] at m2
      refine ⟨(if 0 < -c - 10 ^ 18 then -c - 10 ^ 18 else 0) % (10 ^ 60 * 10 ^ 60), ((-c % (10 ^ 12 + 39)) * 10007 + 509 * at_ + 17 * 1 + 1) % (2 ^ 61 - 1), ?_, Int.emod_nonneg _ (by decide), Int.emod_nonneg _ (by decide), Int.lt_trans (Int.emod_lt_of_pos _ (by decide)) (by decide)⟩
      simp only [f__law_bag, List.drop]
      simp [gx_fn, runF, enter, B.par, Zw.execs, Zw.exec, Zw.ev, evl, evs, evg, evO, evAnd, evOr, evConds, evT, R.bind, R.to, R.of, readV, truB, B.look, B.peek, B.frz, B.give, B.still, B.bl?, D.tru, op2, opAdd, opSub, opMul, opMod, opFdiv, opPow, cmp2, cmLt, cmI, cmN, cmIn, D.isNon, bi1, bi2, biLen, biAbs, biInt, biAll, biTuple, biList, biSum, bi2I, ty_int, ty_bool, ty_tup, blsOf, Zw.still, ixD, ixN, itemsD, wipe, bindT, bindTs, seens, B.seen, Zw.walk, frzs, setAll, gives, eqOk_int, eqB_int, compL, len2, len3, eqOk_pt, eqB_pt, lstAt, lstPut, slice, cut, sIx, Zw.line, p1, p2, p3, p4, m1, m2, m3, q1, hc]
    · rw [if_neg hc] at m2
      refine ⟨(if 0 < c - 10 ^ 18 then c - 10 ^ 18 else 0) % (10 ^ 60 * 10 ^ 60), ((c % (10 ^ 12 + 39)) * 10007 + 509 * at_ + 17 * 0 + 1) % (2 ^ 61 - 1), ?_, Int.emod_nonneg _ (by decide), Int.emod_nonneg _ (by decide), Int.lt_trans (Int.emod_lt_of_pos _ (by decide)) (by decide)⟩
      simp only [f__law_bag, List.drop]
      simp [gx_fn, runF, enter, B.par, Zw.execs, Zw.exec, Zw.ev, evl, evs, evg, evO, evAnd, evOr, evConds, evT, R.bind, R.to, R.of, readV, truB, B.look, B.peek, B.frz, B.give, B.still, B.bl?, D.tru, op2, opAdd, opSub, opMul, opMod, opFdiv, opPow, cmp2, cmLt, cmI, cmN, cmIn, D.isNon, bi1, bi2, biLen, biAbs, biInt, biAll, biTuple, biList, biSum, bi2I, ty_int, ty_bool, ty_tup, blsOf, Zw.still, ixD, ixN, itemsD, wipe, bindT, bindTs, seens, B.seen, Zw.walk, frzs, setAll, gives, eqOk_int, eqB_int, compL, len2, len3, eqOk_pt, eqB_pt, lstAt, lstPut, slice, cut, sIx, Zw.line, p1, p2, p3, p4, m1, m2, m3, q0, hc]
  have cell : ∃ c, Zw.execs (gx n) (f__law_bag.body.take 1) (enter f__law_bag [.sc (.lst (ns.map D.int)), .t (.int at_)]) [] = .nx [some (.sc (.lst (ns.map D.int))), some (.t (.int at_)), some (.t (.int c)), none, none] [] := by
    by_cases hl : at_ < ns.length
    · have hx : at_.toNat < ns.length := by omega
      refine ⟨ns[at_.toNat], ?_⟩
      simp only [f__law_bag, List.take]
      simp [gx_fn, runF, enter, B.par, Zw.execs, Zw.exec, Zw.ev, evl, evs, evg, evO, evAnd, evOr, evConds, evT, R.bind, R.to, R.of, readV, truB, B.look, B.peek, B.frz, B.give, B.still, B.bl?, D.tru, op2, opAdd, opSub, opMul, opMod, opFdiv, opPow, cmp2, cmLt, cmI, cmN, cmIn, D.isNon, bi1, bi2, biLen, biAbs, biInt, biAll, biTuple, biList, biSum, bi2I, ty_int, ty_bool, ty_tup, blsOf, Zw.still, ixD, ixN, itemsD, wipe, bindT, bindTs, seens, B.seen, Zw.walk, frzs, setAll, gives, eqOk_int, eqB_int, compL, len2, len3, eqOk_pt, eqB_pt, lstAt, lstPut, slice, cut, sIx, Zw.line, h0, hl, hx]
    · refine ⟨89 * at_ + 41, ?_⟩
      simp only [f__law_bag, List.take]
      simp [gx_fn, runF, enter, B.par, Zw.execs, Zw.exec, Zw.ev, evl, evs, evg, evO, evAnd, evOr, evConds, evT, R.bind, R.to, R.of, readV, truB, B.look, B.peek, B.frz, B.give, B.still, B.bl?, D.tru, op2, opAdd, opSub, opMul, opMod, opFdiv, opPow, cmp2, cmLt, cmI, cmN, cmIn, D.isNon, bi1, bi2, biLen, biAbs, biInt, biAll, biTuple, biList, biSum, bi2I, ty_int, ty_bool, ty_tup, blsOf, Zw.still, ixD, ixN, itemsD, wipe, bindT, bindTs, seens, B.seen, Zw.walk, frzs, setAll, gives, eqOk_int, eqB_int, compL, len2, len3, eqOk_pt, eqB_pt, lstAt, lstPut, slice, cut, sIx, Zw.line, h0, hl, m5]
  obtain ⟨c, hc⟩ := cell
  obtain ⟨g, b, e, gd⟩ := fin c
  refine ⟨g, b, ?_, gd⟩
  unfold runF at e ⊢
  rw [if_pos (show [B.sc (.lst (ns.map D.int)), .t (.int at_), .t (.int c)].length = 3 from rfl)] at e
  rw [if_pos (show [B.sc (.lst (ns.map D.int)), .t (.int at_)].length = f__law_bag.params from rfl), execs_nx 1 hc]
  exact e
end Law
set_option linter.all false
set_option maxRecDepth 100000
set_option maxHeartbeats 4000000
set_option exponentiation.threshold 5000
namespace Law
open Zw PySem
theorem forLc_inv {n : Nat} {f : D → Zw.Env → Store → RS} (P : Zw.Env → Store → Prop) : ∀ (xs : List D), (∀ x ∈ xs, ∀ ρ s, P ρ s → ∃ ρ' s', f x ρ s = .nx ρ' s' ∧ P (cutE n ρ') (s'.take n)) → ∀ (ρ : Zw.Env) (s : Store), P ρ s → ∃ ρ' s', forL true n f xs ρ s = .nx ρ' s' ∧ P ρ' s'
  | [], _, ρ, s, p => ⟨ρ, s, rfl, p⟩
  | x :: xs, h, ρ, s, p => by
    obtain ⟨ρ1, s1, e1, p1⟩ := h x List.mem_cons_self ρ s p
    obtain ⟨ρ2, s2, e2, p2⟩ := forLc_inv P xs (fun y hy => h y (List.mem_cons_of_mem _ hy)) _ _ p1
    refine ⟨ρ2, s2, ?_, p2⟩
    rw [forL, e1]
    exact e2
theorem compL_inv {f : D → Store → R (Option D)} (P : Store → Prop) (h : ∀ x s, P s → ∃ s', f x s = .ok none s' ∧ P s') : ∀ (xs acc : List D) (s : Store), P s → ∃ s', compL f xs acc s = .ok acc s' ∧ P s'
  | [], acc, s, p => ⟨s, rfl, p⟩
  | x :: xs, acc, s, p => by
    obtain ⟨s1, e1, p1⟩ := h x s p
    obtain ⟨s2, e2, p2⟩ := compL_inv P h xs acc s1 p1
    refine ⟨s2, ?_, p2⟩
    rw [compL, e1]
    exact e2
theorem ev_comp_st {G : Gx} {kind : Nat} {its : List CE} {tg : Tg} {own : List Nat} {conds : List CE} {elt : CE} {ρ : Zw.Env} {s s1 s2 : Store} {bs : List B} {xs ys : List D} (h1 : evl G its ρ s = .ok bs s1) (h2 : (seens bs).bind (walk kind) = some xs)
    (h3 : compL (turnC G tg own conds elt ρ) xs [] s1 = .ok ys s2) : ev G (.comp kind its tg own conds elt) ρ s = .ok (.own (.lst ys)) s2 := by
  have e : ev G (.comp kind its tg own conds elt) ρ s = (evl G its ρ s).bind fun bs s => match (seens bs).bind (walk kind) with
      | none => .bad
      | some xs => (compL (turnC G tg own conds elt ρ) xs [] s).bind fun ys s => .ok (.own (.lst ys)) s := by rw [ev]; rfl
  rw [e, h1]
  show (match (seens bs).bind (walk kind) with
      | none => R.bad
      | some xs => (compL (turnC G tg own conds elt ρ) xs [] s1).bind fun ys s => R.ok (B.own (.lst ys)) s) = _
  rw [h2]
  show (compL (turnC G tg own conds elt ρ) xs [] s1).bind (fun ys s => R.ok (B.own (.lst ys)) s) = _
  rw [h3]
  rfl
theorem cs_st {F : List B → Store → R B} {a b r : D} (h : F [.sc a, .t b] [] = .ok (.own r) []) (s : Store) : callS F [.sc a, .t b] s = .ok (.own r) s := by
  simp [callS, List.filterMap_cons, B.ref?, getAll, renum, h, B.give, putAll]
end Law
set_option linter.all false
set_option maxRecDepth 100000
set_option maxHeartbeats 4000000
set_option exponentiation.threshold 5000
namespace Law
open Zw PySem
/-! ### lowest terms, by a loop whose turns halve -/
abbrev eC : CE := .cmp .ne (.var 3) (.cst (.int 0))
abbrev eB : List CS := [(.par [2, 3] [(.var 3), (.bin .mod (.b1 .int (.var 2)) (.var 3))]), (.frz 2)]
abbrev eR (x0 x1 : Option B) (a b : Nat) : Zw.Env := [x0, x1, some (.t (.int a)), some (.t (.int b)), none]
theorem euc_end (G : Gx) (x0 x1 : Option B) (m a : Nat) : whileL (evT G eC) (Zw.execs G eB) (m + 1) (eR x0 x1 a 0) [] = .nx (eR x0 x1 a 0) [] := by
  rw [whileL]
  simp [gx_fn, runF, enter, B.par, Zw.execs, Zw.exec, Zw.ev, evl, evs, evg, evO, evAnd, evOr, evConds, evT, R.bind, R.to, R.of, readV, truB, B.look, B.peek, B.frz, B.give, B.still, B.bl?, D.tru, op2, opAdd, opSub, opMul, opMod, opFdiv, opPow, cmp2, cmLt, cmI, cmN, cmIn, D.isNon, bi1, bi2, biLen, biAbs, biInt, biAll, biTuple, biList, biSum, bi2I, ty_int, ty_bool, ty_tup, blsOf, Zw.still, ixD, ixN, itemsD, wipe, bindT, bindTs, seens, B.seen, Zw.walk, frzs, setAll, gives, eqOk_int, eqB_int, compL, len2, len3, eqOk_pt, eqB_pt, lstAt, lstPut, slice, cut, sIx, Zw.line]
theorem euc_step (G : Gx) (x0 x1 : Option B) (m a b : Nat) (hb : 0 < b) : whileL (evT G eC) (Zw.execs G eB) (m + 1) (eR x0 x1 a b) [] = whileL (evT G eC) (Zw.execs G eB) m (eR x0 x1 b (a % b)) [] := by
  rw [whileL]
  have h0 : ((b : Int) == 0) = false := by simp; omega
  generalize whileL (evT G eC) (Zw.execs G eB) m = F
  have h1 : ((a % b : Nat) : Int) = (a : Int) % (b : Int) := by simp
  rw [show eR x0 x1 b (a % b) = [x0, x1, some (.t (.int (b : Int))), some (.t (.int ((a : Int) % (b : Int)))), none] by unfold eR; rw [h1]]
  have hb' : ¬ b = 0 := by omega
  simp [gx_fn, runF, enter, B.par, Zw.execs, Zw.exec, Zw.ev, evl, evs, evg, evO, evAnd, evOr, evConds, evT, R.bind, R.to, R.of, readV, truB, B.look, B.peek, B.frz, B.give, B.still, B.bl?, D.tru, op2, opAdd, opSub, opMul, opMod, opFdiv, opPow, cmp2, cmLt, cmI, cmN, cmIn, D.isNon, bi1, bi2, biLen, biAbs, biInt, biAll, biTuple, biList, biSum, bi2I, ty_int, ty_bool, ty_tup, blsOf, Zw.still, ixD, ixN, itemsD, wipe, bindT, bindTs, seens, B.seen, Zw.walk, frzs, setAll, gives, eqOk_int, eqB_int, compL, len2, len3, eqOk_pt, eqB_pt, lstAt, lstPut, slice, cut, sIx, Zw.line, h0, hb, evT, hb']
theorem euclidL (G : Gx) (x0 x1 : Option B) : ∀ (k m a b : Nat), b < 2 ^ k → 2 * k + 1 ≤ m → whileL (evT G eC) (Zw.execs G eB) m (eR x0 x1 a b) [] = .nx (eR x0 x1 (Nat.gcd b a) 0) []
  | 0, m, a, b, hb, hm => by
    have h : b = 0 := by simpa using hb
    subst h
    obtain ⟨m', rfl⟩ : ∃ m', m = m' + 1 := ⟨m - 1, by omega⟩
    rw [euc_end, Nat.gcd_zero_left]
  | k + 1, m, a, b, hb, hm => by
    obtain ⟨m', rfl⟩ : ∃ m', m = m' + 2 := ⟨m - 2, by omega⟩
    by_cases h0 : b = 0
    · subst h0
      rw [euc_end, Nat.gcd_zero_left]
    · rw [euc_step G x0 x1 (m' + 1) a b (by omega)]
      have hlt := Nat.mod_lt a (show 0 < b by omega)
      rw [Nat.gcd_rec b a]
      by_cases hr : a % b = 0
      · rw [hr, euc_end, Nat.gcd_zero_left]
      · rw [euc_step G x0 x1 m' b (a % b) (by omega), Nat.gcd_rec (a % b) b]
        have h1 := Nat.mod_lt b (show 0 < a % b by omega)
        have h2 : b % (a % b) < 2 ^ k := by
          have e := Nat.div_add_mod b (a % b)
          have hd : 1 ≤ b / (a % b) := Nat.div_pos (by omega) (by omega)
          have : a % b ≤ (a % b) * (b / (a % b)) := Nat.le_mul_of_pos_right _ hd
          have hp : 2 ^ (k + 1) = 2 * 2 ^ k := by rw [Nat.pow_succ, Nat.mul_comm]
          omega
        exact euclidL G x0 x1 k m' (a % b) (b % (a % b)) h2 (by omega)
def lowD (t b : Int) : D := Pt ((if 0 < b then 1 else -1) * t / ((Int.gcd t b : Nat) : Int)) ((if 0 < b then 1 else -1) * b / ((Int.gcd t b : Nat) : Int))
abbrev Bg (i : Int) : Prop := i.natAbs < 2 ^ 900
theorem mulBg {i j : Int} (hi : Bg i) (hj : Bg j) : mulOk i j = true := mulOk_of (Nat.lt_of_lt_of_le hi (by decide)) (Nat.lt_of_lt_of_le hj (by decide))
theorem llow_ok (n : Nat) {t b : Int} (ht : Bg t) (hb : Bg b) (h0 : b ≠ 0) : md.call (n + 1) 24 [.t (.int t), .t (.int b)] [] = .ok (.t (lowD t b)) [] := by
  rw [u__law_lowest]
  have e := euclidL (gx n) (some (.t (.int t))) (some (.t (.int b))) 900 steps t.natAbs b.natAbs hb (by decide)
  rw [show Nat.gcd b.natAbs t.natAbs = Int.gcd t b from by rw [Int.gcd, Nat.gcd_comm]] at e
  have hg : 0 < Int.gcd t b := Int.gcd_pos_of_ne_zero_right t h0
  have hg2 : Int.gcd t b ≤ b.natAbs := Nat.le_of_dvd (by omega) (Int.gcd_dvd_natAbs_right t b)
  have hl : (Int.gcd t b).log2 < 9000 := Nat.lt_trans (log_small (k := 900) (by decide) (Nat.lt_of_le_of_lt hg2 hb)) (by decide)
  have ea : (if t < 0 then -t else t) = (t.natAbs : Int) := by split <;> omega
  have eb : (if b < 0 then -b else b) = (b.natAbs : Int) := by split <;> omega
  have m1 := mulBg (i := 1) (by decide +kernel) ht
  have m2 := mulBg (i := 1) (by decide +kernel) hb
  have m3 := mulBg (i := -1) (by decide +kernel) ht
  have m4 := mulBg (i := -1) (by decide +kernel) hb
  unfold f__law_lowest lowD
  generalize Int.gcd t b = g at *
  generalize hC : (CS.while_ (.cmp .ne (.var 3) (.cst (.int 0))) [(.par [2, 3] [(.var 3), (.bin .mod (.b1 .int (.var 2)) (.var 3))]), (.frz 2)]) = C
  have eC : Zw.exec (gx n) C [some (.t (.int t)), some (.t (.int b)), some (.t (.int (t.natAbs : Int))), some (.t (.int (b.natAbs : Int))), none] [] = .nx [some (.t (.int t)), some (.t (.int b)), some (.t (.int (g : Int))), some (.t (.int 0)), none] [] := by
    rw [← hC, Zw.exec]
    exact e
  by_cases hp : 0 < b
  · simp [gx_fn, runF, enter, B.par, Zw.execs, Zw.exec, Zw.ev, evl, evs, evg, evO, evAnd, evOr, evConds, evT, R.bind, R.to, R.of, readV, truB, B.look, B.peek, B.frz, B.give, B.still, B.bl?, D.tru, op2, opAdd, opSub, opMul, opMod, opFdiv, opPow, cmp2, cmLt, cmI, cmN, cmIn, D.isNon, bi1, bi2, biLen, biAbs, biInt, biAll, biTuple, biList, biSum, bi2I, ty_int, ty_bool, ty_tup, blsOf, Zw.still, ixD, ixN, itemsD, wipe, bindT, bindTs, seens, B.seen, Zw.walk, frzs, setAll, gives, eqOk_int, eqB_int, compL, len2, len3, eqOk_pt, eqB_pt, lstAt, lstPut, slice, cut, sIx, Zw.line, ea, eb, eC, hp, m1, m2, hg, hl]
  · simp [gx_fn, runF, enter, B.par, Zw.execs, Zw.exec, Zw.ev, evl, evs, evg, evO, evAnd, evOr, evConds, evT, R.bind, R.to, R.of, readV, truB, B.look, B.peek, B.frz, B.give, B.still, B.bl?, D.tru, op2, opAdd, opSub, opMul, opMod, opFdiv, opPow, cmp2, cmLt, cmI, cmN, cmIn, D.isNon, bi1, bi2, biLen, biAbs, biInt, biAll, biTuple, biList, biSum, bi2I, ty_int, ty_bool, ty_tup, blsOf, Zw.still, ixD, ixN, itemsD, wipe, bindT, bindTs, seens, B.seen, Zw.walk, frzs, setAll, gives, eqOk_int, eqB_int, compL, len2, len3, eqOk_pt, eqB_pt, lstAt, lstPut, slice, cut, sIx, Zw.line, ea, eb, eC, hp, m3, m4, hg, hl]
end Law
set_option linter.all false
set_option maxRecDepth 100000
set_option maxHeartbeats 4000000
set_option exponentiation.threshold 5000
namespace Law
open Zw PySem
/-! ### places under planes -/
abbrev L3 (a b c : Int) : D := .tup [.int a, .int b, .int c]
def pls (p q a b c d : Int) : List D := if 0 < a * d - b * c then [L3 b (-a) (b * p - a * q), L3 (-d) c (c * q - d * p)] else [L3 b (-a) (b * p - a * q), L3 (-d) c (c * q - d * p), L3 (-a) (-b) (-(a * p) - b * q)]
theorem planes_eq (p q a b c d : Int) : planesD p q a b c d = .tup (pls p q a b c d) := rfl
abbrev Ct (i : Int) : Prop := i.natAbs < 10 ^ 100
theorem prC {i j : Int} (hi : Ct i) (hj : Ct j) : Bg (i * j) := by
  unfold Bg
  rw [Int.natAbs_mul]
  exact Nat.lt_of_lt_of_le (Nat.mul_lt_mul'' hi hj) (by decide)
theorem CtBg {i : Int} (h : Ct i) : Bg i := Nat.lt_of_lt_of_le h (by decide)
def undB (a b c x u y v : Int) : Bool := decide (a * x * v + b * y * u ≤ c * u * v)
abbrev Pc (x u y v : Int) : D := .tup [Pt x u, Pt y v]
theorem below_ok (n : Nat) {a b c x u y v : Int} (ha : Ct a) (hb : Ct b) (hc : Ct c) (hx : Ct x) (hu : Ct u) (hy : Ct y) (hv : Ct v) : md.call (n + 1) 11 [.t (L3 a b c), .t (Pc x u y v)] [] = .ok (.t (.bl (undB a b c x u y v))) [] := by
  rw [u_is_below]
  have m1 := mulBg (CtBg ha) (CtBg hx)
  have m2 := mulBg (prC ha hx) (CtBg hv)
  have m3 := mulBg (CtBg hb) (CtBg hy)
  have m4 := mulBg (prC hb hy) (CtBg hu)
  have m5 := mulBg (CtBg hc) (CtBg hu)
  have m6 := mulBg (prC hc hu) (CtBg hv)
  simp [gx_fn, runF, enter, B.par, Zw.execs, Zw.exec, Zw.ev, evl, evs, evg, evO, evAnd, evOr, evConds, evT, R.bind, R.to, R.of, readV, truB, B.look, B.peek, B.frz, B.give, B.still, B.bl?, D.tru, op2, opAdd, opSub, opMul, opMod, opFdiv, opPow, cmp2, cmLt, cmI, cmN, cmIn, D.isNon, bi1, bi2, biLen, biAbs, biInt, biAll, biTuple, biList, biSum, bi2I, ty_int, ty_bool, ty_tup, blsOf, Zw.still, ixD, ixN, itemsD, wipe, bindT, bindTs, seens, B.seen, Zw.walk, frzs, setAll, gives, eqOk_int, eqB_int, compL, len2, len3, eqOk_pt, eqB_pt, lstAt, lstPut, slice, cut, sIx, Zw.line, f_is_below, m1, m2, m3, m4, m5, m6, undB]
theorem under_ok (n : Nat) {a b c x u y v : Int} (ha : Ct a) (hb : Ct b) (hc : Ct c) (hx : Ct x) (hu : Ct u) (hy : Ct y) (hv : Ct v) : md.call (n + 1) 31 [.t (L3 a b c), .t (Pc x u y v)] [] = .ok (.t (.bl (undB a b c x u y v))) [] := by
  rw [u__law_is_under]
  have m1 := mulBg (CtBg ha) (CtBg hx)
  have m2 := mulBg (prC ha hx) (CtBg hv)
  have m3 := mulBg (CtBg hb) (CtBg hy)
  have m4 := mulBg (prC hb hy) (CtBg hu)
  have m5 := mulBg (CtBg hc) (CtBg hu)
  have m6 := mulBg (prC hc hu) (CtBg hv)
  simp [gx_fn, runF, enter, B.par, Zw.execs, Zw.exec, Zw.ev, evl, evs, evg, evO, evAnd, evOr, evConds, evT, R.bind, R.to, R.of, readV, truB, B.look, B.peek, B.frz, B.give, B.still, B.bl?, D.tru, op2, opAdd, opSub, opMul, opMod, opFdiv, opPow, cmp2, cmLt, cmI, cmN, cmIn, D.isNon, bi1, bi2, biLen, biAbs, biInt, biAll, biTuple, biList, biSum, bi2I, ty_int, ty_bool, ty_tup, blsOf, Zw.still, ixD, ixN, itemsD, wipe, bindT, bindTs, seens, B.seen, Zw.walk, frzs, setAll, gives, eqOk_int, eqB_int, compL, len2, len3, eqOk_pt, eqB_pt, lstAt, lstPut, slice, cut, sIx, Zw.line, f__law_is_under, m1, m2, m3, m4, m5, m6, undB]
def undD (x u y v : Int) : D → Bool
  | .tup [.int a, .int b, .int c] => undB a b c x u y v
  | _ => false
def In3 (z : D) : Prop := ∃ a b c, z = L3 a b c ∧ Ct a ∧ Ct b ∧ Ct c
abbrev B30 (i : Int) : Prop := i.natAbs ≤ 10 ^ 30
theorem pr30 {i j : Int} (hi : B30 i) (hj : B30 j) : (i * j).natAbs ≤ 10 ^ 60 := by
  rw [Int.natAbs_mul]
  exact Nat.le_trans (Nat.mul_le_mul hi hj) (by decide)
theorem pls_in {p q a b c d : Int} (hp : B30 p) (hq : B30 q) (ha : B30 a) (hb : B30 b) (hc : B30 c) (hd : B30 d) : ∀ z ∈ pls p q a b c d, In3 z := by
  have h1 := pr30 hb hp
  have h2 := pr30 ha hq
  have h3 := pr30 hc hq
  have h4 := pr30 hd hp
  have h5 := pr30 ha hp
  have h6 := pr30 hb hq
  unfold B30 at *
  intro z hz
  unfold pls at hz
  generalize b * p = v1 at *
  generalize a * q = v2 at *
  generalize c * q = v3 at *
  generalize d * p = v4 at *
  generalize a * p = v5 at *
  generalize b * q = v6 at *
  have k1 : In3 (L3 b (-a) (v1 - v2)) := ⟨_, _, _, rfl, by unfold Ct; omega, by unfold Ct; omega, by unfold Ct; omega⟩
  have k2 : In3 (L3 (-d) c (v3 - v4)) := ⟨_, _, _, rfl, by unfold Ct; omega, by unfold Ct; omega, by unfold Ct; omega⟩
  have k3 : In3 (L3 (-a) (-b) (-v5 - v6)) := ⟨_, _, _, rfl, by unfold Ct; omega, by unfold Ct; omega, by unfold Ct; omega⟩
  split at hz
  · simp only [List.mem_cons, List.not_mem_nil, or_false] at hz
    rcases hz with rfl | rfl
    · exact k1
    · exact k2
  · simp only [List.mem_cons, List.not_mem_nil, or_false] at hz
    rcases hz with rfl | rfl | rfl
    · exact k1
    · exact k2
    · exact k3
theorem pls_len (p q a b c d : Int) : (pls p q a b c d).length ≤ 3 := by unfold pls; split <;> simp
theorem blsOf_map (f : D → Bool) : ∀ xs : List D, blsOf (xs.map fun x => D.bl (f x)) = some (xs.map f)
  | [] => rfl
  | x :: xs => by rw [List.map_cons, blsOf, blsOf_map f xs]; rfl
theorem held_ok (n : Nat) {p q a b c d x u y v : Int} (hp : B30 p) (hq : B30 q) (ha : B30 a) (hb : B30 b) (hc : B30 c) (hd : B30 d) (hx : Ct x) (hu : Ct u) (hy : Ct y) (hv : Ct v) :
    md.call (n + 3) 12 [.t (Wd p q a b c d), .t (Pc x u y v)] [] = .ok (.t (.bl ((pls p q a b c d).all (undD x u y v)))) [] := by
  rw [u_is_held]
  have W30 : ∀ {i : Int}, B30 i → W i := fun h => by unfold W; unfold B30 at h; omega
  have w1 := cs_t1 (halves_ok n (W30 hp) (W30 hq) (W30 ha) (W30 hb) (W30 hc) (W30 hd))
  rw [planes_eq] at w1
  have hin := pls_in hp hq ha hb hc hd
  have hl := pls_len p q a b c d
  generalize pls p q a b c d = ps at *
  have hcm : ev (gx (n + 2)) (.comp 0 [(.call 10 [(.var 0)])] (.nm 2) [2] [] (.call 11 [(.var 2), (.var 1)])) [some (.t (Wd p q a b c d)), some (.t (Pc x u y v)), none] [] = .ok (.own (.lst (ps.map fun z => D.bl (undD x u y v z)))) [] := by
    rw [← map_all]
    refine ev_comp_of (bs := [.t (.tup ps)]) (s1 := []) (xs := ps) (by simp [gx_fn, runF, enter, B.par, Zw.execs, Zw.exec, Zw.ev, evl, evs, evg, evO, evAnd, evOr, evConds, evT, R.bind, R.to, R.of, readV, truB, B.look, B.peek, B.frz, B.give, B.still, B.bl?, D.tru, op2, opAdd, opSub, opMul, opMod, opFdiv, opPow, cmp2, cmLt, cmI, cmN, cmIn, D.isNon, bi1, bi2, biLen, biAbs, biInt, biAll, biTuple, biList, biSum, bi2I, ty_int, ty_bool, ty_tup, blsOf, Zw.still, ixD, ixN, itemsD, wipe, bindT, bindTs, seens, B.seen, Zw.walk, frzs, setAll, gives, eqOk_int, eqB_int, compL, len2, len3, eqOk_pt, eqB_pt, lstAt, lstPut, slice, cut, sIx, Zw.line, w1]) rfl (fun z hz => ?_) (Nat.le_trans hl (by decide))
    obtain ⟨k1, k2, k3, rfl, l1, l2, l3⟩ := hin z hz
    have w2 := cs_t2 (below_ok (n + 1) l1 l2 l3 hx hu hy hv)
    simp [gx_fn, runF, enter, B.par, Zw.execs, Zw.exec, Zw.ev, evl, evs, evg, evO, evAnd, evOr, evConds, evT, R.bind, R.to, R.of, readV, truB, B.look, B.peek, B.frz, B.give, B.still, B.bl?, D.tru, op2, opAdd, opSub, opMul, opMod, opFdiv, opPow, cmp2, cmLt, cmI, cmN, cmIn, D.isNon, bi1, bi2, biLen, biAbs, biInt, biAll, biTuple, biList, biSum, bi2I, ty_int, ty_bool, ty_tup, blsOf, Zw.still, ixD, ixN, itemsD, wipe, bindT, bindTs, seens, B.seen, Zw.walk, frzs, setAll, gives, eqOk_int, eqB_int, compL, len2, len3, eqOk_pt, eqB_pt, lstAt, lstPut, slice, cut, sIx, Zw.line, turnC, w2, undD]
  unfold f_is_held
  generalize (CE.comp 0 [(.call 10 [(.var 0)])] (.nm 2) [2] [] (.call 11 [(.var 2), (.var 1)])) = C at *
  have hb := blsOf_map (undD x u y v) ps
  generalize (ps.map fun z => D.bl (undD x u y v z)) = ks at *
  simp [gx_fn, runF, enter, B.par, Zw.execs, Zw.exec, Zw.ev, evl, evs, evg, evO, evAnd, evOr, evConds, evT, R.bind, R.to, R.of, readV, truB, B.look, B.peek, B.frz, B.give, B.still, B.bl?, D.tru, op2, opAdd, opSub, opMul, opMod, opFdiv, opPow, cmp2, cmLt, cmI, cmN, cmIn, D.isNon, bi1, bi2, biLen, biAbs, biInt, biAll, biTuple, biList, biSum, bi2I, ty_int, ty_bool, ty_tup, blsOf, Zw.still, ixD, ixN, itemsD, wipe, bindT, bindTs, seens, B.seen, Zw.walk, frzs, setAll, gives, eqOk_int, eqB_int, compL, len2, len3, eqOk_pt, eqB_pt, lstAt, lstPut, slice, cut, sIx, Zw.line, hcm, hb]
def holdB (p q a b c d x u y v : Int) : Bool := if a * d - b * c = 0 then decide (a * ((y - q * v) * u) - b * ((x - p * u) * v) = 0) && decide (0 ≤ a * ((x - p * u) * v) + b * ((y - q * v) * u))
  else decide (0 ≤ (x - p * u) * v * d - (y - q * v) * u * c) && decide (0 ≤ a * ((y - q * v) * u) - b * ((x - p * u) * v))
theorem id1 (p q a b x u y v : Int) : (b * p - a * q) * u * v - (b * x * v + -a * y * u) = a * ((y - q * v) * u) - b * ((x - p * u) * v) := by grind
theorem id2 (p q c d x u y v : Int) : (c * q - d * p) * u * v - (-d * x * v + c * y * u) = (x - p * u) * v * d - (y - q * v) * u * c := by grind
theorem id3 (p q a b x u y v : Int) : (-(a * p) - b * q) * u * v - (-a * x * v + -b * y * u) = a * ((x - p * u) * v) + b * ((y - q * v) * u) := by grind
theorem id4 (a b c d f g : Int) (h : a * d - b * c = 0) : (a * a + b * b) * (f * d - g * c) = -((a * c + b * d) * (a * g - b * f)) := by grind
theorem held_eq {p q a b c d : Int} (x u y v : Int) (h1 : ¬(a = 0 ∧ b = 0)) (h : 0 < a * d - b * c ∨ (a * d - b * c = 0 ∧ 0 < a * c + b * d)) : (pls p q a b c d).all (undD x u y v) = holdB p q a b c d x u y v := by
  have i1 := id1 p q a b x u y v
  have i2 := id2 p q c d x u y v
  have i3 := id3 p q a b x u y v
  unfold pls holdB
  rcases h with h | ⟨h, h'⟩
  · rw [if_pos h, if_neg (by omega)]
    simp only [List.all_cons, List.all_nil, undD, undB, Bool.and_true]
    rw [← i1, ← i2, Bool.and_comm]
    congr 1 <;> exact decide_eq_decide.mpr (by omega)
  · rw [if_neg (by omega), if_pos h]
    simp only [List.all_cons, List.all_nil, undD, undB, Bool.and_true]
    have i4 := id4 a b c d ((x - p * u) * v) ((y - q * v) * u) h
    have s := sq_pos h1
    generalize a * ((y - q * v) * u) - b * ((x - p * u) * v) = t1 at *
    generalize (x - p * u) * v * d - (y - q * v) * u * c = t2 at *
    generalize a * ((x - p * u) * v) + b * ((y - q * v) * u) = t3 at *
    generalize a * a + b * b = s1 at *
    generalize a * c + b * d = s2 at *
    have key : (0 ≤ t1 ∧ 0 ≤ t2) ↔ t1 = 0 := by
      constructor
      · rintro ⟨k1, k2⟩
        rcases Int.lt_trichotomy t1 0 with z | z | z
        · omega
        · exact z
        · have := Int.mul_pos h' z
          have := Int.mul_nonneg (show 0 ≤ s1 by omega) k2
          omega
      · rintro rfl
        refine ⟨by omega, ?_⟩
        rw [Int.mul_zero, Int.neg_zero] at i4
        rcases Int.mul_eq_zero.mp i4 with z | z <;> omega
    rw [Bool.eq_iff_iff]
    simp only [Bool.and_eq_true, decide_eq_true_eq]
    constructor
    · rintro ⟨k1, k2, k3⟩
      exact ⟨key.mp ⟨by omega, by omega⟩, by omega⟩
    · rintro ⟨k1, k2⟩
      obtain ⟨k3, k4⟩ := key.mpr k1
      exact ⟨by omega, by omega, by omega⟩
end Law
set_option linter.all false
set_option maxRecDepth 100000
set_option maxHeartbeats 4000000
set_option exponentiation.threshold 5000
namespace Law
open Zw PySem
/-! ### crossings -/
theorem low_ok (n : Nat) {t b : Int} (ht : Bg t) (hb : Bg b) (h0 : b ≠ 0) : md.call (n + 1) 1 [.t (.int t), .t (.int b)] [] = .ok (.t (lowD t b)) [] := by
  rw [u_lowest]
  have hg : 0 < Int.gcd t b := Int.gcd_pos_of_ne_zero_right t h0
  have hg2 : Int.gcd t b ≤ b.natAbs := Nat.le_of_dvd (by omega) (Int.gcd_dvd_natAbs_right t b)
  have hl : (Int.gcd t b).log2 < 9000 := Nat.lt_trans (log_small (k := 900) (by decide) (Nat.lt_of_le_of_lt hg2 hb)) (by decide)
  have m1 := mulBg (i := 1) (by decide +kernel) ht
  have m2 := mulBg (i := 1) (by decide +kernel) hb
  have m3 := mulBg (i := -1) (by decide +kernel) ht
  have m4 := mulBg (i := -1) (by decide +kernel) hb
  unfold f_lowest lowD
  by_cases hp : 0 < b
  · have hn : ¬ b < 0 := by omega
    generalize hq : Int.gcd t b = g at *
    simp [gx_fn, runF, enter, B.par, Zw.execs, Zw.exec, Zw.ev, evl, evs, evg, evO, evAnd, evOr, evConds, evT, R.bind, R.to, R.of, readV, truB, B.look, B.peek, B.frz, B.give, B.still, B.bl?, D.tru, op2, opAdd, opSub, opMul, opMod, opFdiv, opPow, cmp2, cmLt, cmI, cmN, cmIn, D.isNon, bi1, bi2, biLen, biAbs, biInt, biAll, biTuple, biList, biSum, bi2I, ty_int, ty_bool, ty_tup, blsOf, Zw.still, ixD, ixN, itemsD, wipe, bindT, bindTs, seens, B.seen, Zw.walk, frzs, setAll, gives, eqOk_int, eqB_int, compL, len2, len3, eqOk_pt, eqB_pt, lstAt, lstPut, slice, cut, sIx, Zw.line, hp, hn, m1, m2, hg, hl, hq]
  · have hn : b < 0 := by omega
    generalize hq : Int.gcd t b = g at *
    simp [gx_fn, runF, enter, B.par, Zw.execs, Zw.exec, Zw.ev, evl, evs, evg, evO, evAnd, evOr, evConds, evT, R.bind, R.to, R.of, readV, truB, B.look, B.peek, B.frz, B.give, B.still, B.bl?, D.tru, op2, opAdd, opSub, opMul, opMod, opFdiv, opPow, cmp2, cmLt, cmI, cmN, cmIn, D.isNon, bi1, bi2, biLen, biAbs, biInt, biAll, biTuple, biList, biSum, bi2I, ty_int, ty_bool, ty_tup, blsOf, Zw.still, ixD, ixN, itemsD, wipe, bindT, bindTs, seens, B.seen, Zw.walk, frzs, setAll, gives, eqOk_int, eqB_int, compL, len2, len3, eqOk_pt, eqB_pt, lstAt, lstPut, slice, cut, sIx, Zw.line, hp, hn, m3, m4, hg, hl, hq]
def crossD (a b c d e f : Int) : D := if a * e - b * d = 0 then .non else .tup [lowD (c * e - b * f) (a * e - b * d), lowD (a * f - c * d) (a * e - b * d)]
abbrev C80 (i : Int) : Prop := i.natAbs ≤ 10 ^ 80
theorem sub80 {a b c d : Int} (ha : C80 a) (hb : C80 b) (hc : C80 c) (hd : C80 d) : Bg (a * b - c * d) := by
  have h1 : (a * b).natAbs ≤ 10 ^ 160 := by rw [Int.natAbs_mul]; exact Nat.le_trans (Nat.mul_le_mul ha hb) (by decide)
  have h2 : (c * d).natAbs ≤ 10 ^ 160 := by rw [Int.natAbs_mul]; exact Nat.le_trans (Nat.mul_le_mul hc hd) (by decide)
  refine Nat.lt_of_le_of_lt (show (a * b - c * d).natAbs ≤ 2 * 10 ^ 160 by omega) (by decide)
theorem m80 {a b : Int} (ha : C80 a) (hb : C80 b) : mulOk a b = true := mulOk_of (Nat.lt_of_le_of_lt ha (by decide)) (Nat.lt_of_le_of_lt hb (by decide))
theorem cross_in_ok (n : Nat) {a b c d e f : Int} (ha : C80 a) (hb : C80 b) (hc : C80 c) (hd : C80 d) (he : C80 e) (hf : C80 f) : md.call (n + 2) 13 [.t (L3 a b c), .t (L3 d e f)] [] = .ok (.t (crossD a b c d e f)) [] := by
  rw [u_crossing_in]
  have m1 := m80 ha he
  have m2 := m80 hb hd
  have m3 := m80 hc he
  have m4 := m80 hb hf
  have m5 := m80 ha hf
  have m6 := m80 hc hd
  have g1 := sub80 ha he hb hd
  have g2 := sub80 hc he hb hf
  have g3 := sub80 ha hf hc hd
  unfold crossD
  generalize hu : a * e - b * d = u at *
  generalize hx : c * e - b * f = x at *
  generalize hy : a * f - c * d = y at *
  by_cases h : u = 0
  · subst h
    simp [gx_fn, runF, enter, B.par, Zw.execs, Zw.exec, Zw.ev, evl, evs, evg, evO, evAnd, evOr, evConds, evT, R.bind, R.to, R.of, readV, truB, B.look, B.peek, B.frz, B.give, B.still, B.bl?, D.tru, op2, opAdd, opSub, opMul, opMod, opFdiv, opPow, cmp2, cmLt, cmI, cmN, cmIn, D.isNon, bi1, bi2, biLen, biAbs, biInt, biAll, biTuple, biList, biSum, bi2I, ty_int, ty_bool, ty_tup, blsOf, Zw.still, ixD, ixN, itemsD, wipe, bindT, bindTs, seens, B.seen, Zw.walk, frzs, setAll, gives, eqOk_int, eqB_int, compL, len2, len3, eqOk_pt, eqB_pt, lstAt, lstPut, slice, cut, sIx, Zw.line, f_crossing_in, m1, m2, hu]
  · have h0 : (u == 0) = false := by simpa using h
    have w1 := cs_t2 (low_ok n g2 g1 h)
    have w2 := cs_t2 (low_ok n g3 g1 h)
    simp [gx_fn, runF, enter, B.par, Zw.execs, Zw.exec, Zw.ev, evl, evs, evg, evO, evAnd, evOr, evConds, evT, R.bind, R.to, R.of, readV, truB, B.look, B.peek, B.frz, B.give, B.still, B.bl?, D.tru, op2, opAdd, opSub, opMul, opMod, opFdiv, opPow, cmp2, cmLt, cmI, cmN, cmIn, D.isNon, bi1, bi2, biLen, biAbs, biInt, biAll, biTuple, biList, biSum, bi2I, ty_int, ty_bool, ty_tup, blsOf, Zw.still, ixD, ixN, itemsD, wipe, bindT, bindTs, seens, B.seen, Zw.walk, frzs, setAll, gives, eqOk_int, eqB_int, compL, len2, len3, eqOk_pt, eqB_pt, lstAt, lstPut, slice, cut, sIx, Zw.line, f_crossing_in, m1, m2, m3, m4, m5, m6, hu, hx, hy, h0, h, w1, w2]
theorem lcross_ok (n : Nat) {a b c d e f : Int} (ha : C80 a) (hb : C80 b) (hc : C80 c) (hd : C80 d) (he : C80 e) (hf : C80 f) : md.call (n + 2) 27 [.t (L3 a b c), .t (L3 d e f)] [] = .ok (.t (crossD a b c d e f)) [] := by
  rw [u__law_crossing]
  have m1 := m80 ha he
  have m2 := m80 hb hd
  have m3 := m80 hc he
  have m4 := m80 hf hb
  have m5 := m80 ha hf
  have m6 := m80 hd hc
  have g1 := sub80 ha he hb hd
  have g2 := sub80 hc he hb hf
  have g3 := sub80 ha hf hc hd
  have e1 : c * e - f * b = c * e - b * f := by rw [Int.mul_comm f b]
  have e2 : a * f - d * c = a * f - c * d := by rw [Int.mul_comm d c]
  unfold crossD
  generalize hu : a * e - b * d = u at *
  generalize hx : c * e - b * f = x at *
  generalize hy : a * f - c * d = y at *
  by_cases h : u = 0
  · subst h
    simp [gx_fn, runF, enter, B.par, Zw.execs, Zw.exec, Zw.ev, evl, evs, evg, evO, evAnd, evOr, evConds, evT, R.bind, R.to, R.of, readV, truB, B.look, B.peek, B.frz, B.give, B.still, B.bl?, D.tru, op2, opAdd, opSub, opMul, opMod, opFdiv, opPow, cmp2, cmLt, cmI, cmN, cmIn, D.isNon, bi1, bi2, biLen, biAbs, biInt, biAll, biTuple, biList, biSum, bi2I, ty_int, ty_bool, ty_tup, blsOf, Zw.still, ixD, ixN, itemsD, wipe, bindT, bindTs, seens, B.seen, Zw.walk, frzs, setAll, gives, eqOk_int, eqB_int, compL, len2, len3, eqOk_pt, eqB_pt, lstAt, lstPut, slice, cut, sIx, Zw.line, f__law_crossing, m1, m2, hu]
  · have h0 : (u == 0) = false := by simpa using h
    have w1 := cs_t2 (llow_ok n g2 g1 h)
    have w2 := cs_t2 (llow_ok n g3 g1 h)
    simp [gx_fn, runF, enter, B.par, Zw.execs, Zw.exec, Zw.ev, evl, evs, evg, evO, evAnd, evOr, evConds, evT, R.bind, R.to, R.of, readV, truB, B.look, B.peek, B.frz, B.give, B.still, B.bl?, D.tru, op2, opAdd, opSub, opMul, opMod, opFdiv, opPow, cmp2, cmLt, cmI, cmN, cmIn, D.isNon, bi1, bi2, biLen, biAbs, biInt, biAll, biTuple, biList, biSum, bi2I, ty_int, ty_bool, ty_tup, blsOf, Zw.still, ixD, ixN, itemsD, wipe, bindT, bindTs, seens, B.seen, Zw.walk, frzs, setAll, gives, eqOk_int, eqB_int, compL, len2, len3, eqOk_pt, eqB_pt, lstAt, lstPut, slice, cut, sIx, Zw.line, f__law_crossing, m1, m2, m3, m4, m5, m6, hu, hx, hy, e1, e2, h0, h, w1, w2]
theorem half_ok (n : Nat) {a b c : Int} (h : ¬(a = 0 ∧ b = 0)) : md.call (n + 2) 9 [.t (L3 a b c)] [] = .ok (.t (.bl true)) [] := by
  rw [u_is_half_of]
  have w := fun d => cs_t1 (integer_ok n d)
  have hi : ∀ i, intB (.int i) = true := fun _ => rfl
  have h0 : (a == 0 && b == 0) = false := by
    cases q : (a == 0 && b == 0) with
    | false => rfl
    | true => simp at q; exact absurd q h
  simp [gx_fn, runF, enter, B.par, Zw.execs, Zw.exec, Zw.ev, evl, evs, evg, evO, evAnd, evOr, evConds, evT, R.bind, R.to, R.of, readV, truB, B.look, B.peek, B.frz, B.give, B.still, B.bl?, D.tru, op2, opAdd, opSub, opMul, opMod, opFdiv, opPow, cmp2, cmLt, cmI, cmN, cmIn, D.isNon, bi1, bi2, biLen, biAbs, biInt, biAll, biTuple, biList, biSum, bi2I, ty_int, ty_bool, ty_tup, blsOf, Zw.still, ixD, ixN, itemsD, wipe, bindT, bindTs, seens, B.seen, Zw.walk, frzs, setAll, gives, eqOk_int, eqB_int, compL, len2, len3, eqOk_pt, eqB_pt, lstAt, lstPut, slice, cut, sIx, Zw.line, f_is_half_of, w, hi, h0]
theorem crossing_ok (n : Nat) {a b c d e f : Int} (h1 : ¬(a = 0 ∧ b = 0)) (h2 : ¬(d = 0 ∧ e = 0)) (ha : C80 a) (hb : C80 b) (hc : C80 c) (hd : C80 d) (he : C80 e) (hf : C80 f) :
    md.call (n + 3) 18 [.t (L3 a b c), .t (L3 d e f)] [] = .ok (.t (crossD a b c d e f)) [] := by
  rw [u_crossing]
  have w1 := cs_t1 (half_ok n (c := c) h1)
  have w2 := cs_t1 (half_ok n (c := f) h2)
  have w3 := cs_t2 (cross_in_ok n ha hb hc hd he hf)
  simp [gx_fn, runF, enter, B.par, Zw.execs, Zw.exec, Zw.ev, evl, evs, evg, evO, evAnd, evOr, evConds, evT, R.bind, R.to, R.of, readV, truB, B.look, B.peek, B.frz, B.give, B.still, B.bl?, D.tru, op2, opAdd, opSub, opMul, opMod, opFdiv, opPow, cmp2, cmLt, cmI, cmN, cmIn, D.isNon, bi1, bi2, biLen, biAbs, biInt, biAll, biTuple, biList, biSum, bi2I, ty_int, ty_bool, ty_tup, blsOf, Zw.still, ixD, ixN, itemsD, wipe, bindT, bindTs, seens, B.seen, Zw.walk, frzs, setAll, gives, eqOk_int, eqB_int, compL, len2, len3, eqOk_pt, eqB_pt, lstAt, lstPut, slice, cut, sIx, Zw.line, f_crossing, w1, w2, w3, forL, cutAt]
theorem div_le (a g : Int) : (a / g).natAbs ≤ a.natAbs := by
  have := Int.natAbs_ediv_le_natAbs a g
  omega
theorem low_bd (t b : Int) : ∃ u v, lowD t b = Pt u v ∧ u.natAbs ≤ t.natAbs ∧ v.natAbs ≤ b.natAbs := by
  unfold lowD
  refine ⟨_, _, rfl, ?_, ?_⟩
  · refine Nat.le_trans (div_le _ _) ?_
    split <;> omega
  · refine Nat.le_trans (div_le _ _) ?_
    split <;> omega
theorem low_fine {t b : Int} (ht : Bg t) (hb : Bg b) : (lowD t b).Fine ∧ (lowD t b).wt = 3849 ∧ (lowD t b).dep = 1 := by
  obtain ⟨u, v, e, h1, h2⟩ := low_bd t b
  rw [e]
  have f1 : u.natAbs < 2 ^ 1900 := Nat.lt_of_le_of_lt h1 (Nat.lt_of_lt_of_le ht (by decide))
  have f2 : v.natAbs < 2 ^ 1900 := Nat.lt_of_le_of_lt h2 (Nat.lt_of_lt_of_le hb (by decide))
  exact ⟨by simp [D.Fine, D.Fines, f1, f2], by simp [D.wt, D.wts], by simp [D.dep, D.deps]⟩
theorem cross_fine {a b c d e f : Int} (ha : C80 a) (hb : C80 b) (hc : C80 c) (hd : C80 d) (he : C80 e) (hf : C80 f) : (crossD a b c d e f).Fine ∧ (crossD a b c d e f).wt ≤ 10000 ∧ (crossD a b c d e f).dep ≤ 2 := by
  have g1 := sub80 ha he hb hd
  have g2 := sub80 hc he hb hf
  have g3 := sub80 ha hf hc hd
  unfold crossD
  split
  · exact ⟨trivial, by decide, by decide⟩
  · obtain ⟨a1, a2, a3⟩ := low_fine g2 g1
    obtain ⟨b1, b2, b3⟩ := low_fine g3 g1
    exact ⟨by simp [D.Fine, D.Fines, a1, b1], by simp [D.wt, D.wts, a2, b2], by simp [D.dep, D.deps, a3, b3]⟩
end Law
set_option linter.all false
set_option maxRecDepth 100000
set_option maxHeartbeats 4000000
set_option exponentiation.threshold 5000
namespace Law
open Zw PySem
/-! ### places -/
abbrev B25 (i : Int) : Prop := i.natAbs ≤ 10 ^ 25
theorem does_hold_ok (n : Nat) {p q a b c d x u y v : Int} (hp : p.natAbs ≤ 10 ^ 21) (hq : q.natAbs ≤ 10 ^ 21) (ha : a.natAbs ≤ 10 ^ 21) (hb : b.natAbs ≤ 10 ^ 21) (hc : c.natAbs ≤ 10 ^ 21) (hd : d.natAbs ≤ 10 ^ 21) (hx : B25 x) (hy : B25 y) (hu : u.natAbs ≤ 10) (hv : v.natAbs ≤ 10) :
    md.call (n + 2) 26 [.t (Wd p q a b c d), .t (Pc x u y v)] [] = .ok (.t (.bl (holdB p q a b c d x u y v))) [] := by
  rw [u__law_does_hold]
  have m1 : mulOk p u = true := mulOk_of (Nat.lt_of_le_of_lt hp (by decide)) (Nat.lt_of_le_of_lt hu (by decide))
  have m2 : mulOk q v = true := mulOk_of (Nat.lt_of_le_of_lt hq (by decide)) (Nat.lt_of_le_of_lt hv (by decide))
  have b1 : (p * u).natAbs ≤ 10 ^ 22 := by rw [Int.natAbs_mul]; exact Nat.le_trans (Nat.mul_le_mul hp hu) (by decide)
  have b2 : (q * v).natAbs ≤ 10 ^ 22 := by rw [Int.natAbs_mul]; exact Nat.le_trans (Nat.mul_le_mul hq hv) (by decide)
  have b3 : (x - p * u).natAbs ≤ 10 ^ 26 := by unfold B25 at hx; omega
  have b4 : (y - q * v).natAbs ≤ 10 ^ 26 := by unfold B25 at hy; omega
  have m3 : mulOk (x - p * u) v = true := mulOk_of (Nat.lt_of_le_of_lt b3 (by decide)) (Nat.lt_of_le_of_lt hv (by decide))
  have m4 : mulOk (y - q * v) u = true := mulOk_of (Nat.lt_of_le_of_lt b4 (by decide)) (Nat.lt_of_le_of_lt hu (by decide))
  have b5 : ((x - p * u) * v).natAbs ≤ 10 ^ 27 := by rw [Int.natAbs_mul]; exact Nat.le_trans (Nat.mul_le_mul b3 hv) (by decide)
  have b6 : ((y - q * v) * u).natAbs ≤ 10 ^ 27 := by rw [Int.natAbs_mul]; exact Nat.le_trans (Nat.mul_le_mul b4 hu) (by decide)
  unfold holdB
  have Wa : W a := by unfold W; omega
  have Wb : W b := by unfold W; omega
  have Wc : W c := by unfold W; omega
  have Wd' : W d := by unfold W; omega
  have Wf : W ((x - p * u) * v) := by unfold W; omega
  have Wg : W ((y - q * v) * u) := by unfold W; omega
  have w1 := cs_t2 (lturn_ok n Wa Wb Wc Wd')
  have w2 := cs_t2 (lturn_ok n Wa Wb Wf Wg)
  have w3 := cs_t2 (lturn_ok n Wf Wg Wc Wd')
  have w4 := cs_t2 (ldot_ok n Wa Wb Wf Wg)
  generalize hf : (x - p * u) * v = f at *
  generalize hg : (y - q * v) * u = g at *
  generalize a * d - b * c = t at *
  generalize a * g - b * f = t1 at *
  generalize f * d - g * c = t2 at *
  generalize a * f + b * g = t3 at *
  by_cases h : t = 0
  · subst h
    by_cases h1 : t1 = 0
    · simp [gx_fn, runF, enter, B.par, Zw.execs, Zw.exec, Zw.ev, evl, evs, evg, evO, evAnd, evOr, evConds, evT, R.bind, R.to, R.of, readV, truB, B.look, B.peek, B.frz, B.give, B.still, B.bl?, D.tru, op2, opAdd, opSub, opMul, opMod, opFdiv, opPow, cmp2, cmLt, cmI, cmN, cmIn, D.isNon, bi1, bi2, biLen, biAbs, biInt, biAll, biTuple, biList, biSum, bi2I, ty_int, ty_bool, ty_tup, blsOf, Zw.still, ixD, ixN, itemsD, wipe, bindT, bindTs, seens, B.seen, Zw.walk, frzs, setAll, gives, eqOk_int, eqB_int, compL, len2, len3, eqOk_pt, eqB_pt, lstAt, lstPut, slice, cut, sIx, Zw.line, f__law_does_hold, m1, m2, m3, m4, w1, w2, w3, w4, hf, hg, h1]
    · have h2 : (t1 == 0) = false := by simpa using h1
      simp [gx_fn, runF, enter, B.par, Zw.execs, Zw.exec, Zw.ev, evl, evs, evg, evO, evAnd, evOr, evConds, evT, R.bind, R.to, R.of, readV, truB, B.look, B.peek, B.frz, B.give, B.still, B.bl?, D.tru, op2, opAdd, opSub, opMul, opMod, opFdiv, opPow, cmp2, cmLt, cmI, cmN, cmIn, D.isNon, bi1, bi2, biLen, biAbs, biInt, biAll, biTuple, biList, biSum, bi2I, ty_int, ty_bool, ty_tup, blsOf, Zw.still, ixD, ixN, itemsD, wipe, bindT, bindTs, seens, B.seen, Zw.walk, frzs, setAll, gives, eqOk_int, eqB_int, compL, len2, len3, eqOk_pt, eqB_pt, lstAt, lstPut, slice, cut, sIx, Zw.line, f__law_does_hold, m1, m2, m3, m4, w1, w2, w3, w4, hf, hg, h1, h2]
  · have h0 : (t == 0) = false := by simpa using h
    by_cases h1 : 0 ≤ t2
    · simp [gx_fn, runF, enter, B.par, Zw.execs, Zw.exec, Zw.ev, evl, evs, evg, evO, evAnd, evOr, evConds, evT, R.bind, R.to, R.of, readV, truB, B.look, B.peek, B.frz, B.give, B.still, B.bl?, D.tru, op2, opAdd, opSub, opMul, opMod, opFdiv, opPow, cmp2, cmLt, cmI, cmN, cmIn, D.isNon, bi1, bi2, biLen, biAbs, biInt, biAll, biTuple, biList, biSum, bi2I, ty_int, ty_bool, ty_tup, blsOf, Zw.still, ixD, ixN, itemsD, wipe, bindT, bindTs, seens, B.seen, Zw.walk, frzs, setAll, gives, eqOk_int, eqB_int, compL, len2, len3, eqOk_pt, eqB_pt, lstAt, lstPut, slice, cut, sIx, Zw.line, f__law_does_hold, m1, m2, m3, m4, w1, w2, w3, w4, hf, hg, h, h0, h1]
    · simp [gx_fn, runF, enter, B.par, Zw.execs, Zw.exec, Zw.ev, evl, evs, evg, evO, evAnd, evOr, evConds, evT, R.bind, R.to, R.of, readV, truB, B.look, B.peek, B.frz, B.give, B.still, B.bl?, D.tru, op2, opAdd, opSub, opMul, opMod, opFdiv, opPow, cmp2, cmLt, cmI, cmN, cmIn, D.isNon, bi1, bi2, biLen, biAbs, biInt, biAll, biTuple, biList, biSum, bi2I, ty_int, ty_bool, ty_tup, blsOf, Zw.still, ixD, ixN, itemsD, wipe, bindT, bindTs, seens, B.seen, Zw.walk, frzs, setAll, gives, eqOk_int, eqB_int, compL, len2, len3, eqOk_pt, eqB_pt, lstAt, lstPut, slice, cut, sIx, Zw.line, f__law_does_hold, m1, m2, m3, m4, w1, w2, w3, w4, hf, hg, h, h0, h1]
theorem holds_ok (n : Nat) {p q a b c d x u y v : Int} (hw : wedgeB (Wd p q a b c d) = true) (hpl : placeB (Pc x u y v) = true) (hp : B30 p) (hq : B30 q) (ha : B30 a) (hb : B30 b) (hc : B30 c) (hd : B30 d) (hx : Ct x) (hu : Ct u) (hy : Ct y) (hv : Ct v) :
    md.call (n + 6) 17 [.t (Wd p q a b c d), .t (Pc x u y v)] [] = .ok (.t (.bl ((pls p q a b c d).all (undD x u y v)))) [] := by
  rw [u_holds]
  have w1 := cs_t1 (req_wedge_ok n _ hw)
  have w2 := cs_t1 (place_ok (n + 2) (Pc x u y v))
  have w3 := cs_t2 (held_ok (n + 2) hp hq ha hb hc hd hx hu hy hv)
  simp [gx_fn, runF, enter, B.par, Zw.execs, Zw.exec, Zw.ev, evl, evs, evg, evO, evAnd, evOr, evConds, evT, R.bind, R.to, R.of, readV, truB, B.look, B.peek, B.frz, B.give, B.still, B.bl?, D.tru, op2, opAdd, opSub, opMul, opMod, opFdiv, opPow, cmp2, cmLt, cmI, cmN, cmIn, D.isNon, bi1, bi2, biLen, biAbs, biInt, biAll, biTuple, biList, biSum, bi2I, ty_int, ty_bool, ty_tup, blsOf, Zw.still, ixD, ixN, itemsD, wipe, bindT, bindTs, seens, B.seen, Zw.walk, frzs, setAll, gives, eqOk_int, eqB_int, compL, len2, len3, eqOk_pt, eqB_pt, lstAt, lstPut, slice, cut, sIx, Zw.line, f_holds, w1, w2, hpl, w3]
theorem low_frac {t b : Int} (hb : 0 < b) : fracB (lowD t b) = true := by
  unfold lowD
  rw [if_pos hb, Int.one_mul, Int.one_mul]
  have hg : 0 < Int.gcd t b := Int.gcd_pos_of_ne_zero_right t (by omega)
  have h1 := Int.gcd_ediv_gcd_ediv_gcd hg
  have hd : ((Int.gcd t b : Nat) : Int) ∣ b := Int.gcd_dvd_right t b
  have h2 : 0 < b / ((Int.gcd t b : Nat) : Int) := Int.ediv_pos_of_pos_of_dvd hb (by omega) hd
  show (decide (0 < b / ((Int.gcd t b : Nat) : Int)) && (((Int.gcd (t / ((Int.gcd t b : Nat) : Int)) (b / ((Int.gcd t b : Nat) : Int)) : Nat) : Int) == 1)) = true
  rw [h1, decide_eq_true h2]
  rfl
def Plc (d : D) : Prop := ∃ x u y v, d = Pc x u y v ∧ B25 x ∧ B25 y ∧ u.natAbs ≤ 10 ∧ v.natAbs ≤ 10 ∧ placeB d = true
theorem plc_of {f g m : Int} (hf : f.natAbs ≤ 10 ^ 24) (hg : g.natAbs ≤ 10 ^ 24) (hm : 0 < m) (hm2 : m ≤ 7) : Plc (.tup [lowD f m, lowD g m]) := by
  obtain ⟨x, u, e1, h1, h2⟩ := low_bd f m
  obtain ⟨y, v, e2, h3, h4⟩ := low_bd g m
  have p1 := low_frac (t := f) hm
  have p2 := low_frac (t := g) hm
  refine ⟨x, u, y, v, by rw [e1, e2], by unfold B25; omega, by unfold B25; omega, by omega, by omega, ?_⟩
  show (fracB (lowD f m) && fracB (lowD g m)) = true
  rw [p1, p2]
  rfl
theorem place_draw_ok (n : Nat) {g b size p q a c d e : Int} (h : Gd g b) (hs : 0 < size) (hs2 : size ≤ 10 ^ 20) (hp : p.natAbs ≤ 10 ^ 21) (hq : q.natAbs ≤ 10 ^ 21) (ha : a.natAbs ≤ 10 ^ 21) (hc : c.natAbs ≤ 10 ^ 21) (hd : d.natAbs ≤ 10 ^ 21) (he : e.natAbs ≤ 10 ^ 21) :
    ∃ r g' b', md.call (n + 2) 30 [.r 0, .t (Wd p q a c d e), .t (.int size)] [bag g b] = .ok (.t r) [bag g' b'] ∧ Plc r ∧ Gd g' b' := by
  obtain ⟨v1, g1, b1, e1, l1, l2, gd1⟩ := draw_ok n (m := 9) h (by decide) (by decide)
  obtain ⟨v2, g2, b2, e2, l3, l4, gd2⟩ := draw_ok n (m := 9) gd1 (by decide) (by decide)
  obtain ⟨v3, g3, b3, e3, l5, l6, gd3⟩ := draw_ok n (m := 7) gd2 (by decide) (by decide)
  obtain ⟨v4, g4, b4, e4, l7, l8, gd4⟩ := draw_ok n (m := 3) gd3 (by decide) (by decide)
  obtain ⟨v5, g5, b5, e5, l9, l10, gd5⟩ := draw_ok n (m := 4) gd4 (by decide) (by decide)
  obtain ⟨v6, g6, b6, e6, k1, k2, gd6⟩ := draw_ok n (m := 2 * size + 1) gd5 (by omega) (by omega)
  obtain ⟨v7, g7, b7, e7, k3, k4, gd7⟩ := draw_ok n (m := 2 * size + 1) gd6 (by omega) (by omega)
  have e1 := cs_r2 e1
  have e2 := cs_r2 e2
  have e3 := cs_r2 e3
  have e4 := cs_r2 e4
  have e5 := cs_r2 e5
  have e6 := cs_r2 e6
  have e7 := cs_r2 e7
  have ms : mulOk 2 size = true := mulOk_of (by decide) (Nat.lt_of_lt_of_le (show size.natAbs < 2 ^ 200 by omega) (by decide))
  have mk : ∀ {i j : Int}, i.natAbs ≤ 10 ^ 21 → j.natAbs ≤ 10 → mulOk i j = true ∧ mulOk j i = true := fun hi hj => ⟨mulOk_of (Nat.lt_of_le_of_lt hi (by decide)) (Nat.lt_of_le_of_lt hj (by decide)), mulOk_of (Nat.lt_of_le_of_lt hj (by decide)) (Nat.lt_of_le_of_lt hi (by decide))⟩
  have pb : ∀ {i j : Int}, i.natAbs ≤ 10 ^ 21 → j.natAbs ≤ 10 → (i * j).natAbs ≤ 10 ^ 22 ∧ (j * i).natAbs ≤ 10 ^ 22 := fun hi hj => ⟨by rw [Int.natAbs_mul]; exact Nat.le_trans (Nat.mul_le_mul hi hj) (by decide), by rw [Int.natAbs_mul]; exact Nat.le_trans (Nat.mul_le_mul hj hi) (by decide)⟩
  rw [u__law_place]
  have hm : (1 + v3).natAbs ≤ 10 := by omega
  have ho : (v2 - 2).natAbs ≤ 10 := by omega
  have h1 : (v1 - 2).natAbs ≤ 10 := by omega
  have n1 := (mk hp hm).1
  have n2 := (mk hq hm).1
  have n3 := (mk ha h1).2
  have n4 := (mk hc h1).2
  have n5 := (mk hd ho).2
  have n6 := (mk he ho).2
  have n7 := (mk ha (j := 0) (by decide)).2
  have n8 := (mk hc (j := 0) (by decide)).2
  have p1 := (pb hp hm).1
  have p2 := (pb hq hm).1
  have p3 := (pb ha h1).2
  have p4 := (pb hc h1).2
  have p5 := (pb hd ho).2
  have p6 := (pb he ho).2
  have lw : ∀ f : Int, f.natAbs ≤ 10 ^ 24 → ∀ s, callS (md.call (n + 1) 24) [.t (.int f), .t (.int (1 + v3))] s = .ok (.t (lowD f (1 + v3))) s := fun f hf s => cs_t2 (llow_ok n (Nat.lt_of_le_of_lt hf (by decide)) (Nat.lt_of_le_of_lt hm (by decide)) (by omega)) s
  have fin : ∀ f g : Int, f.natAbs ≤ 10 ^ 24 → g.natAbs ≤ 10 ^ 24 → Plc (.tup [lowD f (1 + v3), lowD g (1 + v3)]) := fun f g hf hg => plc_of hf hg (by omega) (by omega)
  by_cases q4 : v4 = 0
  · subst q4
    by_cases q5 : v5 = 0
    · subst q5
      have w1 := lw (v6 - size) (by omega)
      have w2 := lw (v7 - size) (by omega)
      refine ⟨_, g7, b7, ?_, fin (v6 - size) (v7 - size) (by omega) (by omega), gd7⟩
      simp [gx_fn, runF, enter, B.par, Zw.execs, Zw.exec, Zw.ev, evl, evs, evg, evO, evAnd, evOr, evConds, evT, R.bind, R.to, R.of, readV, truB, B.look, B.peek, B.frz, B.give, B.still, B.bl?, D.tru, op2, opAdd, opSub, opMul, opMod, opFdiv, opPow, cmp2, cmLt, cmI, cmN, cmIn, D.isNon, bi1, bi2, biLen, biAbs, biInt, biAll, biTuple, biList, biSum, bi2I, ty_int, ty_bool, ty_tup, blsOf, Zw.still, ixD, ixN, itemsD, wipe, bindT, bindTs, seens, B.seen, Zw.walk, frzs, setAll, gives, eqOk_int, eqB_int, compL, len2, len3, eqOk_pt, eqB_pt, lstAt, lstPut, slice, cut, sIx, Zw.line, f__law_place, e1, e2, e3, e4, e5, e6, e7, ms, n1, n2, n3, n4, n5, n6, n7, n8, w1, w2]
    · have q6 : (v5 == 0) = false := by simpa using q5
      have w1 := lw (p * (1 + v3) + (v2 - 2) * d) (by omega)
      have w2 := lw (q * (1 + v3) + (v2 - 2) * e) (by omega)
      refine ⟨_, g5, b5, ?_, fin (p * (1 + v3) + (v2 - 2) * d) (q * (1 + v3) + (v2 - 2) * e) (by omega) (by omega), gd5⟩
      simp [gx_fn, runF, enter, B.par, Zw.execs, Zw.exec, Zw.ev, evl, evs, evg, evO, evAnd, evOr, evConds, evT, R.bind, R.to, R.of, readV, truB, B.look, B.peek, B.frz, B.give, B.still, B.bl?, D.tru, op2, opAdd, opSub, opMul, opMod, opFdiv, opPow, cmp2, cmLt, cmI, cmN, cmIn, D.isNon, bi1, bi2, biLen, biAbs, biInt, biAll, biTuple, biList, biSum, bi2I, ty_int, ty_bool, ty_tup, blsOf, Zw.still, ixD, ixN, itemsD, wipe, bindT, bindTs, seens, B.seen, Zw.walk, frzs, setAll, gives, eqOk_int, eqB_int, compL, len2, len3, eqOk_pt, eqB_pt, lstAt, lstPut, slice, cut, sIx, Zw.line, f__law_place, e1, e2, e3, e4, e5, q6, n1, n2, n3, n4, n5, n6, n7, n8, w1, w2]
  · have q4' : (v4 == 0) = false := by simpa using q4
    by_cases q5 : v5 = 0
    · subst q5
      have w1 := lw (v6 - size) (by omega)
      have w2 := lw (v7 - size) (by omega)
      refine ⟨_, g7, b7, ?_, fin (v6 - size) (v7 - size) (by omega) (by omega), gd7⟩
      simp [gx_fn, runF, enter, B.par, Zw.execs, Zw.exec, Zw.ev, evl, evs, evg, evO, evAnd, evOr, evConds, evT, R.bind, R.to, R.of, readV, truB, B.look, B.peek, B.frz, B.give, B.still, B.bl?, D.tru, op2, opAdd, opSub, opMul, opMod, opFdiv, opPow, cmp2, cmLt, cmI, cmN, cmIn, D.isNon, bi1, bi2, biLen, biAbs, biInt, biAll, biTuple, biList, biSum, bi2I, ty_int, ty_bool, ty_tup, blsOf, Zw.still, ixD, ixN, itemsD, wipe, bindT, bindTs, seens, B.seen, Zw.walk, frzs, setAll, gives, eqOk_int, eqB_int, compL, len2, len3, eqOk_pt, eqB_pt, lstAt, lstPut, slice, cut, sIx, Zw.line, f__law_place, e1, e2, e3, e4, q4', e5, e6, e7, ms, n1, n2, n3, n4, n5, n6, w1, w2]
    · have q6 : (v5 == 0) = false := by simpa using q5
      have w1 := lw (p * (1 + v3) + (v1 - 2) * a + (v2 - 2) * d) (by omega)
      have w2 := lw (q * (1 + v3) + (v1 - 2) * c + (v2 - 2) * e) (by omega)
      refine ⟨_, g5, b5, ?_, fin (p * (1 + v3) + (v1 - 2) * a + (v2 - 2) * d) (q * (1 + v3) + (v1 - 2) * c + (v2 - 2) * e) (by omega) (by omega), gd5⟩
      simp [gx_fn, runF, enter, B.par, Zw.execs, Zw.exec, Zw.ev, evl, evs, evg, evO, evAnd, evOr, evConds, evT, R.bind, R.to, R.of, readV, truB, B.look, B.peek, B.frz, B.give, B.still, B.bl?, D.tru, op2, opAdd, opSub, opMul, opMod, opFdiv, opPow, cmp2, cmLt, cmI, cmN, cmIn, D.isNon, bi1, bi2, biLen, biAbs, biInt, biAll, biTuple, biList, biSum, bi2I, ty_int, ty_bool, ty_tup, blsOf, Zw.still, ixD, ixN, itemsD, wipe, bindT, bindTs, seens, B.seen, Zw.walk, frzs, setAll, gives, eqOk_int, eqB_int, compL, len2, len3, eqOk_pt, eqB_pt, lstAt, lstPut, slice, cut, sIx, Zw.line, f__law_place, e1, e2, e3, e4, q4', e5, q6, n1, n2, n3, n4, n5, n6, w1, w2]
end Law
set_option linter.all false
set_option maxRecDepth 100000
set_option maxHeartbeats 4000000
set_option exponentiation.threshold 5000
namespace Law
open Zw PySem
/-! ### the law -/
theorem forL_cnt {n : Nat} {f : D → Zw.Env → Store → RS} (P : Nat → Zw.Env → Store → Prop) : ∀ (xs : List D), (∀ x ∈ xs, ∀ k ρ s, P k ρ s → ∃ ρ' s', f x ρ s = .nx ρ' s' ∧ P (k + 1) ρ' s') → ∀ (k : Nat) (ρ : Zw.Env) (s : Store), P k ρ s → ∃ ρ' s', forL false n f xs ρ s = .nx ρ' s' ∧ P (k + xs.length) ρ' s'
  | [], _, k, ρ, s, p => ⟨ρ, s, rfl, p⟩
  | x :: xs, h, k, ρ, s, p => by
    obtain ⟨ρ1, s1, e1, p1⟩ := h x List.mem_cons_self k ρ s p
    obtain ⟨ρ2, s2, e2, p2⟩ := forL_cnt P xs (fun y hy => h y (List.mem_cons_of_mem _ hy)) (k + 1) ρ1 s1 p1
    refine ⟨ρ2, s2, ?_, by rw [List.length_cons, Nat.add_comm xs.length 1, ← Nat.add_assoc]; exact p2⟩
    rw [forL, e1]
    exact e2
theorem eqOk_bl (a b : Bool) : eqOk (.bl a) (.bl b) = true := rfl
theorem eqB_bl (a b : Bool) : eqB (.bl a) (.bl b) = (a == b) := by unfold eqB; rw [D.py, D.py, PyData.eqv]
theorem repr_bl (b : Bool) : reprOk (.bl b) = true := reprOk_of (by rw [D.Fine]; trivial) (by simp [D.wt, Zw.line]) (by simp [D.dep])
abbrev rA (sz p q a c d e : Int) (o3 o4 o5 o7 : Option B) : Zw.Env := [some (.r 0), some (.t (.int sz)), some (.t (Wd p q a c d e)), o3, o4, o5, none, o7, none, none]
theorem segA (n : Nat) {g b : Int} (h : Gd g b) : ∃ sz p q a c d e g' b', Zw.execs (gx (n + 5)) (f__law_right.body.take 4) [some (.r 0), none, none, none, none, none, none, none, none, none] [bag g b] = .nx (rA sz p q a c d e none none none none) [bag g' b'] ∧
    (0 < sz ∧ sz ≤ 10 ^ 20) ∧ (Bz sz p ∧ Bz sz q ∧ Bz sz a ∧ Bz sz c ∧ Bz sz d ∧ Bz sz e) ∧ wedgeB (Wd p q a c d e) = true ∧ Gd g' b' := by
  obtain ⟨v, g1, b1, e1, hv, gd1⟩ := one_of_ok (n + 3) (xs := [.int 3, .int 9, .int 1000, .int 100000000000000000000]) h (by simp) (by simp)
  obtain ⟨sz, rfl, s0, s1⟩ : ∃ sz, v = .int sz ∧ 0 < sz ∧ sz ≤ 10 ^ 20 := by
    simp only [List.mem_cons, List.not_mem_nil, or_false] at hv
    rcases hv with rfl | rfl | rfl | rfl
    · exact ⟨3, rfl, by decide, by decide⟩
    · exact ⟨9, rfl, by decide, by decide⟩
    · exact ⟨1000, rfl, by decide, by decide⟩
    · exact ⟨100000000000000000000, rfl, by decide, by decide⟩
  obtain ⟨p, q, a, c, d, e, g4, b4, e4, bd, hw, gd4⟩ := wedge_draw_ok (n + 2) gd1 s0 (Int.le_trans s1 (by decide))
  have e1 := cs_r2 e1
  have e4 := cs_r2 e4
  refine ⟨sz, p, q, a, c, d, e, g4, b4, ?_, ⟨s0, s1⟩, bd, hw, gd4⟩
  have p1 : powOk 10 20 = true := by decide
  simp only [f__law_right, List.take]
  simp [gx_fn, runF, enter, B.par, Zw.execs, Zw.exec, Zw.ev, evl, evs, evg, evO, evAnd, evOr, evConds, evT, R.bind, R.to, R.of, readV, truB, B.look, B.peek, B.frz, B.give, B.still, B.bl?, D.tru, op2, opAdd, opSub, opMul, opMod, opFdiv, opPow, cmp2, cmLt, cmI, cmN, cmIn, D.isNon, bi1, bi2, biLen, biAbs, biInt, biAll, biTuple, biList, biSum, bi2I, ty_int, ty_bool, ty_tup, blsOf, Zw.still, ixD, ixN, itemsD, wipe, bindT, bindTs, seens, B.seen, Zw.walk, frzs, setAll, gives, eqOk_int, eqB_int, compL, len2, len3, eqOk_pt, eqB_pt, lstAt, lstPut, slice, cut, sIx, Zw.line, e1, e4, p1]
def keep1 (b : D → Bool) (x : D) : Option D := if b x then none else some (.int 1)
theorem keep1_all (b : D → Bool) : ∀ xs : List D, (xs.filterMap (keep1 b)).isEmpty = xs.all b
  | [] => rfl
  | x :: xs => by
    have ih := keep1_all b xs
    cases h : b x <;> simp [keep1, h, List.filterMap_cons] at ih ⊢
    exact ih
theorem keep1_fine (b : D → Bool) : ∀ xs : List D, D.Fines (xs.filterMap (keep1 b)) ∧ D.deps (xs.filterMap (keep1 b)) = 0
  | [] => ⟨trivial, rfl⟩
  | x :: xs => by
    obtain ⟨h1, h2⟩ := keep1_fine b xs
    rw [List.filterMap_cons]
    cases h : b x
    · simp only [keep1, h, Bool.false_eq_true, if_false, D.Fines, D.deps, h2, D.Fine, D.dep]
      exact ⟨⟨by decide, h1⟩, by simp⟩
    · simp only [keep1, h, if_true]
      exact ⟨h1, h2⟩
theorem wedge_facts {p q a b c d : Int} (h : wedgeB (Wd p q a b c d) = true) : ¬(a = 0 ∧ b = 0) ∧ ¬(c = 0 ∧ d = 0) ∧ (0 < a * d - b * c ∨ (a * d - b * c = 0 ∧ 0 < a * c + b * d)) := by
  have e : wedgeB (Wd p q a b c d) = (pointB (Pt p q) && (dirB (Pt a b) && (dirB (Pt c d) && (decide (0 < a * d - b * c) || (decide (a * d - b * c = 0) && decide (0 < a * c + b * d)))))) := rfl
  rw [e] at h
  simp only [Bool.and_eq_true, Bool.or_eq_true, decide_eq_true_eq] at h
  obtain ⟨_, h1, h2, h3⟩ := h
  unfold dirB at h1 h2
  rw [eqB_pt] at h1 h2
  simp at h1 h2
  exact ⟨by omega, by omega, h3⟩
theorem cs_r3 {F : List B → Store → R B} {a b r : D} {o o' : O} (h : F [.r 0, .t a, .t b] [o] = .ok (.t r) [o']) : callS F [.r 0, .t a, .t b] [o] = .ok (.t r) [o'] := by
  simp [callS, List.filterMap_cons, B.ref?, getAll, renum, h, B.give, putAll]
end Law
set_option linter.all false
set_option maxRecDepth 100000
set_option maxHeartbeats 4000000
set_option exponentiation.threshold 5000
namespace Law
open Zw PySem
theorem sz_nat {s : Int} (h : 0 < s ∧ s ≤ 10 ^ 20) : s.natAbs ≤ 10 ^ 20 := by omega
theorem bz21 {s i : Int} (h : 0 < s ∧ s ≤ 10 ^ 20) (hb : Bz s i) : i.natAbs ≤ 10 ^ 21 := Nat.le_trans hb (Nat.le_trans (Nat.mul_le_mul_left 3 (sz_nat h)) (by decide))
theorem b30_of {i : Int} (h : i.natAbs ≤ 10 ^ 21) : B30 i := Nat.le_trans h (by decide)
theorem w_of {i : Int} (h : i.natAbs ≤ 10 ^ 21) : W i := Nat.lt_of_le_of_lt h (by decide)
theorem ct25 {i : Int} (h : B25 i) : Ct i := Nat.lt_of_le_of_lt h (by decide)
theorem ct10 {i : Int} (h : i.natAbs ≤ 10) : Ct i := Nat.lt_of_le_of_lt h (by decide)
abbrev tB : List CS := [(.asg 4 (.call 30 [(.var 0), (.var 2), (.var 1)])), (.frz 4), (.asg 5 (.call 26 [(.var 2), (.var 4)])), (.frz 5), (.ite (.orv [(.cmp .ne (.b1 .repr (.call 17 [(.var 2), (.var 4)])) (.b1 .repr (.var 5))), (.cmp .ne (.cmp .eq (.comp 0 [(.call 16 [(.var 2)])] (.nm 6) [6] [(.notv (.call 31 [(.var 6), (.var 4)]))] (.cst (.int 1))) (.lst [])) (.var 5))]) [(.ret (.cst (.bl false)))] [])]
abbrev cB : CE := .comp 0 [(.call 16 [(.var 2)])] (.nm 6) [6] [(.notv (.call 31 [(.var 6), (.var 4)]))] (.cst (.int 1))
theorem cB_ok (n : Nat) {sz p q a c d e x u y v : Int} {z : D} {s : Store} {hb : Bool} (hw : wedgeB (Wd p q a c d e) = true) (z1 : p.natAbs ≤ 10 ^ 21) (z2 : q.natAbs ≤ 10 ^ 21) (z3 : a.natAbs ≤ 10 ^ 21) (z4 : c.natAbs ≤ 10 ^ 21) (z5 : d.natAbs ≤ 10 ^ 21) (z6 : e.natAbs ≤ 10 ^ 21)
    (hx : Ct x) (hy : Ct y) (hu : Ct u) (hv : Ct v) :
    ev (gx (n + 7)) cB (rA sz p q a c d e (some (.t z)) (some (.t (Pc x u y v))) (some (.t (.bl hb))) none) s = .ok (.own (.lst ((pls p q a c d e).filterMap (keep1 (undD x u y v))))) s := by
  have w3 := cs_t1 (half_planes_ok (n + 1) hw (w_of z1) (w_of z2) (w_of z3) (w_of z4) (w_of z5) (w_of z6))
  rw [planes_eq] at w3
  have hin := pls_in (b30_of z1) (b30_of z2) (b30_of z3) (b30_of z4) (b30_of z5) (b30_of z6)
  have hl := pls_len p q a c d e
  generalize pls p q a c d e = ps at *
  refine ev_comp_of (bs := [.t (.tup ps)]) (s1 := s) (xs := ps) (by simp [gx_fn, runF, enter, B.par, Zw.execs, Zw.exec, Zw.ev, evl, evs, evg, evO, evAnd, evOr, evConds, evT, R.bind, R.to, R.of, readV, truB, B.look, B.peek, B.frz, B.give, B.still, B.bl?, D.tru, op2, opAdd, opSub, opMul, opMod, opFdiv, opPow, cmp2, cmLt, cmI, cmN, cmIn, D.isNon, bi1, bi2, biLen, biAbs, biInt, biAll, biTuple, biList, biSum, bi2I, ty_int, ty_bool, ty_tup, blsOf, Zw.still, ixD, ixN, itemsD, wipe, bindT, bindTs, seens, B.seen, Zw.walk, frzs, setAll, gives, eqOk_int, eqB_int, compL, len2, len3, eqOk_pt, eqB_pt, lstAt, lstPut, slice, cut, sIx, Zw.line, w3]) rfl (fun z hz => ?_) (Nat.le_trans hl (by decide))
  obtain ⟨k1, k2, k3, rfl, l1, l2, l3⟩ := hin z hz
  have w4 := cs_t2 (under_ok (n + 6) l1 l2 l3 hx hu hy hv)
  cases hq : undB k1 k2 k3 x u y v <;> simp [gx_fn, runF, enter, B.par, Zw.execs, Zw.exec, Zw.ev, evl, evs, evg, evO, evAnd, evOr, evConds, evT, R.bind, R.to, R.of, readV, truB, B.look, B.peek, B.frz, B.give, B.still, B.bl?, D.tru, op2, opAdd, opSub, opMul, opMod, opFdiv, opPow, cmp2, cmLt, cmI, cmN, cmIn, D.isNon, bi1, bi2, biLen, biAbs, biInt, biAll, biTuple, biList, biSum, bi2I, ty_int, ty_bool, ty_tup, blsOf, Zw.still, ixD, ixN, itemsD, wipe, bindT, bindTs, seens, B.seen, Zw.walk, frzs, setAll, gives, eqOk_int, eqB_int, compL, len2, len3, eqOk_pt, eqB_pt, lstAt, lstPut, slice, cut, sIx, Zw.line, turnC, w4, keep1, undD, hq]
theorem turnB (n : Nat) {sz p q a c d e g b : Int} (s0 : 0 < sz ∧ sz ≤ 10 ^ 20) (z1 : p.natAbs ≤ 10 ^ 21) (z2 : q.natAbs ≤ 10 ^ 21) (z3 : a.natAbs ≤ 10 ^ 21) (z4 : c.natAbs ≤ 10 ^ 21) (z5 : d.natAbs ≤ 10 ^ 21) (z6 : e.natAbs ≤ 10 ^ 21) (hw : wedgeB (Wd p q a c d e) = true)
    (gd : Gd g b) (z : D) (o4 o5 : Option B) :
    ∃ o4' o5' g' b', Zw.execs (gx (n + 7)) tB (rA sz p q a c d e (some (.t z)) o4 o5 none) [bag g b] = .nx (rA sz p q a c d e (some (.t z)) o4' o5' none) [bag g' b'] ∧ Gd g' b' := by
  obtain ⟨nz1, nz2, hd⟩ := wedge_facts hw
  obtain ⟨r, g1, b1, e1, hpl, gd1⟩ := place_draw_ok (n + 5) (p := p) (q := q) (a := a) (c := c) (d := d) (e := e) gd s0.1 s0.2 z1 z2 z3 z4 z5 z6
  unfold Plc at hpl
  obtain ⟨x, u, y, v, hr, y1, y2, y3, y4, y5⟩ := hpl
  subst hr
  have e1 := cs_r3 e1
  have w1 := cs_t2 (does_hold_ok (n + 5) (p := p) (q := q) (a := a) (b := c) (c := d) (d := e) (x := x) (u := u) (y := y) (v := v) z1 z2 z3 z4 z5 z6 y1 y2 y3 y4)
  have w2 := cs_t2 (holds_ok (n + 1) hw y5 (b30_of z1) (b30_of z2) (b30_of z3) (b30_of z4) (b30_of z5) (b30_of z6) (ct25 y1) (ct10 y3) (ct25 y2) (ct10 y4))
  have he := held_eq x u y v nz1 hd (p := p) (q := q)
  rw [he] at w2
  have hc := cB_ok n (sz := sz) (z := z) (s := [bag g1 b1]) (hb := holdB p q a c d e x u y v) hw z1 z2 z3 z4 z5 z6 (ct25 y1) (ct25 y2) (ct10 y3) (ct10 y4)
  obtain ⟨f1, f2⟩ := keep1_fine (undD x u y v) (pls p q a c d e)
  have q1 := eqOk_nil f1 (by rw [f2]; decide)
  have q2 := eqB_nil ((pls p q a c d e).filterMap (keep1 (undD x u y v)))
  rw [keep1_all, he] at q2
  refine ⟨some (.t (Pc x u y v)), some (.t (.bl (holdB p q a c d e x u y v))), g1, b1, ?_, gd1⟩
  generalize (pls p q a c d e).filterMap (keep1 (undD x u y v)) = ks at *
  generalize holdB p q a c d e x u y v = hb at *
  unfold tB
  unfold cB at hc
  generalize (CE.comp 0 [(.call 16 [(.var 2)])] (.nm 6) [6] [(.notv (.call 31 [(.var 6), (.var 4)]))] (.cst (.int 1))) = C at *
  clear nz1 nz2 hd y1 y2 y3 y4 y5 he z1 z2 z3 z4 z5 z6 s0 hw gd gd1 f1 f2
  unfold rA at *
  simp [gx_fn, runF, enter, B.par, Zw.execs, Zw.exec, Zw.ev, evl, evs, evg, evO, evAnd, evOr, evConds, evT, R.bind, R.to, R.of, readV, truB, B.look, B.peek, B.frz, B.give, B.still, B.bl?, D.tru, op2, opAdd, opSub, opMul, opMod, opFdiv, opPow, cmp2, cmLt, cmI, cmN, cmIn, D.isNon, bi1, bi2, biLen, biAbs, biInt, biAll, biTuple, biList, biSum, bi2I, ty_int, ty_bool, ty_tup, blsOf, Zw.still, ixD, ixN, itemsD, wipe, bindT, bindTs, seens, B.seen, Zw.walk, frzs, setAll, gives, eqOk_int, eqB_int, compL, len2, len3, eqOk_pt, eqB_pt, lstAt, lstPut, slice, cut, sIx, Zw.line, e1, w1, w2, hc, q1, q2, repr_bl, eqOk_bl, eqB_bl, str_ok, eqB_str]
theorem segB (n : Nat) {sz p q a c d e g b : Int} (h : Gd g b) (s0 : 0 < sz ∧ sz ≤ 10 ^ 20) (bz : Bz sz p ∧ Bz sz q ∧ Bz sz a ∧ Bz sz c ∧ Bz sz d ∧ Bz sz e) (hw : wedgeB (Wd p q a c d e) = true) :
    ∃ o3 o4 o5 g' b', Zw.execs (gx (n + 7)) ((f__law_right.body.drop 4).take 1) (rA sz p q a c d e none none none none) [bag g b] = .nx (rA sz p q a c d e o3 o4 o5 none) [bag g' b'] ∧ Gd g' b' := by
  obtain ⟨z1, z2, z3, z4, z5, z6⟩ := bz
  have z1 := bz21 s0 z1
  have z2 := bz21 s0 z2
  have z3 := bz21 s0 z3
  have z4 := bz21 s0 z4
  have z5 := bz21 s0 z5
  have z6 := bz21 s0 z6
  simp only [f__law_right, List.take, List.drop]
  obtain ⟨ρ', s', e1, o3, o4, o5, g', b', rfl, rfl, gd⟩ := forL_inv (n := 1) (f := fun x ρ s => match bindT (.nm 3) x ρ with
          | none => .bad
          | some ρ => Zw.execs (gx (n + 7)) tB ρ s)
      (fun ρ s => ∃ o3 o4 o5 g b, ρ = rA sz p q a c d e o3 o4 o5 none ∧ s = [bag g b] ∧ Gd g b) (fun z ρ s hp => by
    obtain ⟨o3, o4, o5, g, b, rfl, rfl, gd⟩ := hp
    obtain ⟨o4', o5', g', b', e2, gd2⟩ := turnB n s0 z1 z2 z3 z4 z5 z6 hw gd z o4 o5
    exact ⟨_, _, e2, _, _, _, g', b', rfl, rfl, gd2⟩) ((List.range 8).map fun (k : Nat) => D.int (0 + (k : Int))) (rA sz p q a c d e none none none none) [bag g b] ⟨none, none, none, g, b, rfl, rfl, h⟩
  refine ⟨o3, o4, o5, g', b', ?_, gd⟩
  rw [Zw.execs, exec_for_of (bs := [.t (.int 8)]) (s1 := [bag g b]) (by simp [evl, ev, R.bind, B.still]) (show (frzs [.t (.int 8)]).bind (walk 1) = some ((List.range 8).map fun (k : Nat) => D.int (0 + (k : Int))) from rfl)]
  have key : ∀ r : RS, r = .nx (rA sz p q a c d e o3 o4 o5 none) [bag g' b'] → (match r with
      | .nx ρ' s' => Zw.execs (gx (n + 7)) [] ρ' s'
      | r => r) = .nx (rA sz p q a c d e o3 o4 o5 none) [bag g' b'] := fun r h => by rw [h]; simp [Zw.execs]
  exact key _ e1
end Law
set_option linter.all false
set_option maxRecDepth 100000
set_option maxHeartbeats 4000000
set_option exponentiation.threshold 5000
namespace Law
open Zw PySem
abbrev tC : List CS := [(.app 7 (.bin .add (.call 28 [(.var 0), (.var 1)]) (.tup [(false, (.bin .sub (.call 20 [(.var 0), (.bin .add (.bin .mul (.cst (.int 2)) (.var 1)) (.cst (.int 1)))]) (.var 1)))])))]
def Pn (z : D) : Prop := ∃ a b c, z = L3 a b c ∧ a.natAbs ≤ 10 ^ 21 ∧ b.natAbs ≤ 10 ^ 21 ∧ c.natAbs ≤ 10 ^ 21 ∧ ¬(a = 0 ∧ b = 0)
theorem turnC_ok (n : Nat) {sz p q a c d e g b : Int} (s0 : 0 < sz ∧ sz ≤ 10 ^ 20) (gd : Gd g b) (z : D) (o4 o5 : Option B) (xs : List D) (hl : xs.length < 1000) :
    ∃ y g' b', Zw.execs (gx (n + 7)) tC (rA sz p q a c d e (some (.t z)) o4 o5 (some (.own (.lst xs)))) [bag g b] = .nx (rA sz p q a c d e (some (.t z)) o4 o5 (some (.own (.lst (xs ++ [y]))))) [bag g' b'] ∧ Pn y ∧ Gd g' b' := by
  obtain ⟨x, y, g1, b1, e1, ⟨d1, d2⟩, nz, gd1⟩ := direction_ok (n + 5) gd s0.1 (Int.le_trans s0.2 (by decide))
  obtain ⟨v, g2, b2, e2, v0, v1, gd2⟩ := draw_ok (n + 6) (m := 2 * sz + 1) gd1 (by omega) (by omega)
  have hs := sz_nat s0
  have m2 : mulOk 2 sz = true := mulOk_of (by decide) (Nat.lt_of_le_of_lt hs (by decide))
  have e1 := cs_r2 e1
  have e2 := cs_r2 e2
  have l9 : xs.length < Zw.line := Nat.lt_trans hl (by decide)
  refine ⟨L3 x y (v - sz), g2, b2, ?_, ⟨x, y, v - sz, rfl, Nat.le_trans d1 (Nat.le_trans hs (by decide)), Nat.le_trans d2 (Nat.le_trans hs (by decide)), by omega, nz⟩, gd2⟩
  have l9 : xs.length < 16777216 := Nat.lt_trans hl (by decide)
  simp [gx_fn, runF, enter, B.par, Zw.execs, Zw.exec, Zw.ev, evl, evs, evg, evO, evAnd, evOr, evConds, evT, R.bind, R.to, R.of, readV, truB, B.look, B.peek, B.frz, B.give, B.still, B.bl?, D.tru, op2, opAdd, opSub, opMul, opMod, opFdiv, opPow, cmp2, cmLt, cmI, cmN, cmIn, D.isNon, bi1, bi2, biLen, biAbs, biInt, biAll, biTuple, biList, biSum, bi2I, ty_int, ty_bool, ty_tup, blsOf, Zw.still, ixD, ixN, itemsD, wipe, bindT, bindTs, seens, B.seen, Zw.walk, frzs, setAll, gives, eqOk_int, eqB_int, compL, len2, len3, eqOk_pt, eqB_pt, lstAt, lstPut, slice, cut, sIx, Zw.line, e1, e2, m2, l9]
theorem forL_upto {n : Nat} {f : D → Zw.Env → Store → RS} (P : Nat → Zw.Env → Store → Prop) (N : Nat) (h : ∀ x k ρ s, k < N → P k ρ s → ∃ ρ' s', f x ρ s = .nx ρ' s' ∧ P (k + 1) ρ' s') : ∀ (xs : List D) (k : Nat) (ρ : Zw.Env) (s : Store), k + xs.length ≤ N → P k ρ s → ∃ ρ' s', forL false n f xs ρ s = .nx ρ' s' ∧ P (k + xs.length) ρ' s'
  | [], k, ρ, s, _, p => ⟨ρ, s, rfl, p⟩
  | x :: xs, k, ρ, s, hk, p => by
    rw [List.length_cons] at hk
    obtain ⟨ρ1, s1, e1, p1⟩ := h x k ρ s (by omega) p
    obtain ⟨ρ2, s2, e2, p2⟩ := forL_upto P N h xs (k + 1) ρ1 s1 (by omega) p1
    refine ⟨ρ2, s2, ?_, by rw [List.length_cons, Nat.add_comm xs.length 1, ← Nat.add_assoc]; exact p2⟩
    rw [forL, e1]
    exact e2
theorem segC (n : Nat) {sz p q a c d e g b : Int} (h : Gd g b) (s0 : 0 < sz ∧ sz ≤ 10 ^ 20) (o3 o4 o5 : Option B) :
    ∃ o3' xs g' b', Zw.execs (gx (n + 7)) ((f__law_right.body.drop 5).take 2) (rA sz p q a c d e o3 o4 o5 none) [bag g b] = .nx (rA sz p q a c d e o3' o4 o5 (some (.own (.lst xs)))) [bag g' b'] ∧ xs.length = 4 ∧ (∀ x ∈ xs, Pn x) ∧ Gd g' b' := by
  obtain ⟨ρ', s', e1, o3', xs, g', b', rfl, rfl, hl, hp, gd⟩ := forL_upto (n := 1) (f := fun x ρ s => match bindT (.nm 3) x ρ with
          | none => .bad
          | some ρ => Zw.execs (gx (n + 7)) tC ρ s)
      (fun k ρ s => ∃ o3 xs g b, ρ = rA sz p q a c d e o3 o4 o5 (some (.own (.lst xs))) ∧ s = [bag g b] ∧ xs.length = k ∧ (∀ x ∈ xs, Pn x) ∧ Gd g b) 4 (fun z k ρ s hk hp => by
    obtain ⟨o3, xs, g, b, rfl, rfl, hl, hp, gd⟩ := hp
    obtain ⟨y, g', b', e2, hy, gd2⟩ := turnC_ok n (p := p) (q := q) (a := a) (c := c) (d := d) (e := e) s0 gd z o4 o5 xs (by omega)
    exact ⟨_, _, e2, _, xs ++ [y], g', b', rfl, rfl, by simp [hl], fun w hw => (List.mem_append.mp hw).elim (hp w) (fun h => by rw [List.mem_singleton.mp h]; exact hy), gd2⟩) ((List.range 4).map fun (k : Nat) => D.int (0 + (k : Int))) 0 (rA sz p q a c d e o3 o4 o5 (some (.own (.lst [])))) [bag g b] (by simp) ⟨o3, [], g, b, rfl, rfl, rfl, by simp, h⟩
  refine ⟨o3', xs, g', b', ?_, by simpa using hl, hp, gd⟩
  have e0 : ((f__law_right.body.drop 5).take 2) = [.asg 7 (.lst []), .for_ false 1 [(.cst (.int 4))] (.nm 3) tC] := rfl
  have e2 : Zw.exec (gx (n + 7)) (.asg 7 (.lst [])) (rA sz p q a c d e o3 o4 o5 none) [bag g b] = .nx (rA sz p q a c d e o3 o4 o5 (some (.own (.lst [])))) [bag g b] := by simp [gx_fn, runF, enter, B.par, Zw.execs, Zw.exec, Zw.ev, evl, evs, evg, evO, evAnd, evOr, evConds, evT, R.bind, R.to, R.of, readV, truB, B.look, B.peek, B.frz, B.give, B.still, B.bl?, D.tru, op2, opAdd, opSub, opMul, opMod, opFdiv, opPow, cmp2, cmLt, cmI, cmN, cmIn, D.isNon, bi1, bi2, biLen, biAbs, biInt, biAll, biTuple, biList, biSum, bi2I, ty_int, ty_bool, ty_tup, blsOf, Zw.still, ixD, ixN, itemsD, wipe, bindT, bindTs, seens, B.seen, Zw.walk, frzs, setAll, gives, eqOk_int, eqB_int, compL, len2, len3, eqOk_pt, eqB_pt, lstAt, lstPut, slice, cut, sIx, Zw.line]
  rw [e0, Zw.execs, e2]
  simp only
  rw [Zw.execs, exec_for_of (bs := [.t (.int 4)]) (s1 := [bag g b]) (by simp [evl, ev, R.bind, B.still]) (show (frzs [.t (.int 4)]).bind (walk 1) = some ((List.range 4).map fun (k : Nat) => D.int (0 + (k : Int))) from rfl)]
  have key : ∀ r : RS, r = .nx (rA sz p q a c d e o3' o4 o5 (some (.own (.lst xs)))) [bag g' b'] → (match r with
      | .nx ρ' s' => Zw.execs (gx (n + 7)) [] ρ' s'
      | r => r) = .nx (rA sz p q a c d e o3' o4 o5 (some (.own (.lst xs)))) [bag g' b'] := fun r h => by rw [h]; simp [Zw.execs]
  exact key _ e1
def Pm (z : D) : Prop := ∃ a b c, z = L3 a b c ∧ C80 a ∧ C80 b ∧ C80 c ∧ ¬(a = 0 ∧ b = 0)
theorem pn_pm {z : D} (h : Pn z) : Pm z := by
  obtain ⟨a, b, c, e, h1, h2, h3, h4⟩ := h
  exact ⟨a, b, c, e, Nat.le_trans h1 (by decide), Nat.le_trans h2 (by decide), Nat.le_trans h3 (by decide), h4⟩
theorem pls_pm {p q a b c d : Int} (hp : p.natAbs ≤ 10 ^ 21) (hq : q.natAbs ≤ 10 ^ 21) (ha : a.natAbs ≤ 10 ^ 21) (hb : b.natAbs ≤ 10 ^ 21) (hc : c.natAbs ≤ 10 ^ 21) (hd : d.natAbs ≤ 10 ^ 21) (n1 : ¬(a = 0 ∧ b = 0)) (n2 : ¬(c = 0 ∧ d = 0)) : ∀ z ∈ pls p q a b c d, Pm z := by
  have h1 := pr30 (b30_of hb) (b30_of hp)
  have h2 := pr30 (b30_of ha) (b30_of hq)
  have h3 := pr30 (b30_of hc) (b30_of hq)
  have h4 := pr30 (b30_of hd) (b30_of hp)
  have h5 := pr30 (b30_of ha) (b30_of hp)
  have h6 := pr30 (b30_of hb) (b30_of hq)
  intro z hz
  unfold pls at hz
  generalize b * p = v1 at *
  generalize a * q = v2 at *
  generalize c * q = v3 at *
  generalize d * p = v4 at *
  generalize a * p = v5 at *
  generalize b * q = v6 at *
  have ng : ∀ {i : Int}, i.natAbs ≤ 10 ^ 21 → C80 i ∧ C80 (-i) := fun {i} h => ⟨Nat.le_trans h (by decide), by unfold C80; rw [Int.natAbs_neg]; exact Nat.le_trans h (by decide)⟩
  have sb : ∀ {i j : Int}, i.natAbs ≤ 10 ^ 60 → j.natAbs ≤ 10 ^ 60 → C80 (i - j) ∧ C80 (-i - j) := fun {i j} h h' => ⟨by unfold C80; omega, by unfold C80; omega⟩
  have k1 : Pm (L3 b (-a) (v1 - v2)) := ⟨_, _, _, rfl, (ng hb).1, (ng ha).2, (sb h1 h2).1, fun h => n1 ⟨by omega, h.1⟩⟩
  have k2 : Pm (L3 (-d) c (v3 - v4)) := ⟨_, _, _, rfl, (ng hd).2, (ng hc).1, (sb h3 h4).1, fun h => n2 ⟨h.2, by omega⟩⟩
  have k3 : Pm (L3 (-a) (-b) (-v5 - v6)) := ⟨_, _, _, rfl, (ng ha).2, (ng hb).2, (sb h5 h6).2, fun h => n1 ⟨by omega, by omega⟩⟩
  split at hz
  · simp only [List.mem_cons, List.not_mem_nil, or_false] at hz
    rcases hz with rfl | rfl
    · exact k1
    · exact k2
  · simp only [List.mem_cons, List.not_mem_nil, or_false] at hz
    rcases hz with rfl | rfl | rfl
    · exact k1
    · exact k2
    · exact k3
theorem segD (n : Nat) {sz p q a c d e g b : Int} (z1 : p.natAbs ≤ 10 ^ 21) (z2 : q.natAbs ≤ 10 ^ 21) (z3 : a.natAbs ≤ 10 ^ 21) (z4 : c.natAbs ≤ 10 ^ 21) (z5 : d.natAbs ≤ 10 ^ 21) (z6 : e.natAbs ≤ 10 ^ 21) (hw : wedgeB (Wd p q a c d e) = true) (o3 o4 o5 : Option B) {xs : List D} (hl : xs.length = 4) (hp : ∀ x ∈ xs, Pn x) :
    ∃ ys, Zw.execs (gx (n + 7)) ((f__law_right.body.drop 7).take 2) (rA sz p q a c d e o3 o4 o5 (some (.own (.lst xs)))) [bag g b] = .nx (rA sz p q a c d e o3 o4 o5 (some (.t (.lst ys)))) [bag g b] ∧ ys.length ≤ 9 ∧ (∀ x ∈ ys, Pm x) := by
  obtain ⟨nz1, nz2, hd⟩ := wedge_facts hw
  have w3 := cs_t1 (lplanes_ok (n + 5) (w_of z1) (w_of z2) (w_of z3) (w_of z4) (w_of z5) (w_of z6))
  rw [planes_eq] at w3
  have hpm := pls_pm z1 z2 z3 z4 z5 z6 nz1 nz2
  have hpl := pls_len p q a c d e
  obtain ⟨x0, x1, x2, x3, rfl⟩ : ∃ x0 x1 x2 x3, xs = [x0, x1, x2, x3] := by
    match xs, hl with
    | [x0, x1, x2, x3], _ => exact ⟨x0, x1, x2, x3, rfl⟩
  obtain ⟨a0, b0, c0, rfl, i1, i2, i3, i4⟩ := hp x0 (by simp)
  obtain ⟨a1, b1, c1, rfl, j1, j2, j3, j4⟩ := hp x1 (by simp)
  have mk : ∀ {i : Int}, i.natAbs ≤ 10 ^ 21 → mulOk 3 i = true := fun h => mulOk_of (by decide) (Nat.lt_of_le_of_lt h (by decide))
  have m1 := mk i1
  have m2 := mk i2
  have m3 := mk i3
  have tr : ∀ {i : Int}, i.natAbs ≤ 10 ^ 21 → C80 (3 * i) := fun h => by unfold C80; omega
  have ng : ∀ {i : Int}, i.natAbs ≤ 10 ^ 21 → C80 (0 - i) := fun h => by unfold C80; omega
  have l9 : (pls p q a c d e).length ≤ 100 := Nat.le_trans hpl (by decide)
  refine ⟨[L3 a0 b0 c0, L3 a1 b1 c1, x2, x3, L3 (3 * a0) (3 * b0) (3 * c0), L3 (0 - a1) (0 - b1) 5] ++ pls p q a c d e, ?_, by simp; omega, ?_⟩
  · clear hpm
    generalize pls p q a c d e = ps at *
    simp only [f__law_right, List.take, List.drop]
    have l10 : 6 + ps.length ≤ 16777216 := Nat.le_trans (Nat.add_le_add_left l9 6) (by decide)
    simp [gx_fn, runF, enter, B.par, Zw.execs, Zw.exec, Zw.ev, evl, evs, evg, evO, evAnd, evOr, evConds, evT, R.bind, R.to, R.of, readV, truB, B.look, B.peek, B.frz, B.give, B.still, B.bl?, D.tru, op2, opAdd, opSub, opMul, opMod, opFdiv, opPow, cmp2, cmLt, cmI, cmN, cmIn, D.isNon, bi1, bi2, biLen, biAbs, biInt, biAll, biTuple, biList, biSum, bi2I, ty_int, ty_bool, ty_tup, blsOf, Zw.still, ixD, ixN, itemsD, wipe, bindT, bindTs, seens, B.seen, Zw.walk, frzs, setAll, gives, eqOk_int, eqB_int, compL, len2, len3, eqOk_pt, eqB_pt, lstAt, lstPut, slice, cut, sIx, Zw.line, w3, m1, m2, m3, l10]
  · intro x hx
    rcases List.mem_append.mp hx with h | h
    · simp only [List.mem_cons, List.not_mem_nil, or_false] at h
      rcases h with rfl | rfl | rfl | rfl | rfl | rfl
      · exact pn_pm (hp _ (by simp))
      · exact pn_pm (hp _ (by simp))
      · exact pn_pm (hp _ (by simp))
      · exact pn_pm (hp _ (by simp))
      · exact ⟨_, _, _, rfl, tr i1, tr i2, tr i3, by omega⟩
      · exact ⟨_, _, _, rfl, ng j1, ng j2, by decide, by omega⟩
    · exact hpm x h
end Law
set_option linter.all false
set_option maxRecDepth 100000
set_option maxHeartbeats 4000000
set_option exponentiation.threshold 5000
namespace Law
open Zw PySem
def crV : D → D → D
  | .tup [.int a, .int b, .int c], .tup [.int d, .int e, .int f] => crossD a b c d e f
  | _, _ => .non
theorem crs_fine {x : D} (hx : Pm x) : ∀ ys : List D, (∀ y ∈ ys, Pm y) → D.Fines (ys.map (crV x)) ∧ D.deps (ys.map (crV x)) ≤ 2 ∧ D.wts (ys.map (crV x)) ≤ 10002 * ys.length
  | [], _ => ⟨trivial, Nat.zero_le _, Nat.zero_le _⟩
  | y :: ys, h => by
    obtain ⟨h1, h2, h3⟩ := crs_fine hx ys (fun z hz => h z (List.mem_cons_of_mem _ hz))
    obtain ⟨a, b, c, rfl, k1, k2, k3, _⟩ := hx
    obtain ⟨d, e, f, rfl, l1, l2, l3, _⟩ := h y List.mem_cons_self
    obtain ⟨g1, g2, g3⟩ := cross_fine k1 k2 k3 l1 l2 l3
    simp only [List.map_cons, D.Fines, D.deps, D.wts, List.length_cons]
    refine ⟨⟨g1, h1⟩, ?_, ?_⟩
    · exact Nat.max_le.mpr ⟨g3, h2⟩
    · have : (crV (L3 a b c) (L3 d e f)).wt ≤ 10000 := g2
      omega
theorem crs_repr {x : D} (hx : Pm x) {ys : List D} (hy : ∀ y ∈ ys, Pm y) (hl : ys.length ≤ 9) : reprOk (.lst (ys.map (crV x))) = true := by
  obtain ⟨h1, h2, h3⟩ := crs_fine hx ys hy
  refine reprOk_of (by rw [D.Fine]; exact h1) ?_ ?_
  · rw [D.wt]; unfold Zw.line; omega
  · rw [D.dep]; omega
theorem fm_some (f : D → D) : ∀ xs : List D, xs.filterMap (fun x => some (f x)) = xs.map f
  | [] => rfl
  | x :: xs => by rw [List.filterMap_cons, fm_some f xs]; rfl
abbrev rG (sz p q a c d e : Int) (o3 o4 o5 o8 : Option B) (ys : List D) : Zw.Env := [some (.r 0), some (.t (.int sz)), some (.t (Wd p q a c d e)), o3, o4, o5, none, some (.t (.lst ys)), o8, none]
abbrev cG (f : Nat) : CE := .comp 0 [(.var 7)] (.nm 9) [9] [] (.call f [(.var 8), (.var 9)])
theorem cG_ok (f : Nat) (n : Nat) {sz p q a c d e : Int} {s : Store} (o3 o4 o5 : Option B) {x : D} {ys : List D} (hx : Pm x) (hy : ∀ y ∈ ys, Pm y) (hl : ys.length ≤ 9)
    (H : ∀ y ∈ ys, ∀ s, callS (md.call (n + 7) f) [.t x, .t y] s = .ok (.t (crV x y)) s) :
    ev (gx (n + 7)) (cG f) (rG sz p q a c d e o3 o4 o5 (some (.t x)) ys) s = .ok (.own (.lst (ys.map (crV x)))) s := by
  rw [← fm_some]
  refine ev_comp_of (bs := [.t (.lst ys)]) (s1 := s) (xs := ys) (by simp [gx_fn, runF, enter, B.par, Zw.execs, Zw.exec, Zw.ev, evl, evs, evg, evO, evAnd, evOr, evConds, evT, R.bind, R.to, R.of, readV, truB, B.look, B.peek, B.frz, B.give, B.still, B.bl?, D.tru, op2, opAdd, opSub, opMul, opMod, opFdiv, opPow, cmp2, cmLt, cmI, cmN, cmIn, D.isNon, bi1, bi2, biLen, biAbs, biInt, biAll, biTuple, biList, biSum, bi2I, ty_int, ty_bool, ty_tup, blsOf, Zw.still, ixD, ixN, itemsD, wipe, bindT, bindTs, seens, B.seen, Zw.walk, frzs, setAll, gives, eqOk_int, eqB_int, compL, len2, len3, eqOk_pt, eqB_pt, lstAt, lstPut, slice, cut, sIx, Zw.line]) rfl (fun z hz => ?_) (Nat.le_trans hl (by decide))
  have w := H z hz
  simp [gx_fn, runF, enter, B.par, Zw.execs, Zw.exec, Zw.ev, evl, evs, evg, evO, evAnd, evOr, evConds, evT, R.bind, R.to, R.of, readV, truB, B.look, B.peek, B.frz, B.give, B.still, B.bl?, D.tru, op2, opAdd, opSub, opMul, opMod, opFdiv, opPow, cmp2, cmLt, cmI, cmN, cmIn, D.isNon, bi1, bi2, biLen, biAbs, biInt, biAll, biTuple, biList, biSum, bi2I, ty_int, ty_bool, ty_tup, blsOf, Zw.still, ixD, ixN, itemsD, wipe, bindT, bindTs, seens, B.seen, Zw.walk, frzs, setAll, gives, eqOk_int, eqB_int, compL, len2, len3, eqOk_pt, eqB_pt, lstAt, lstPut, slice, cut, sIx, Zw.line, turnC, w]
theorem turnG (n : Nat) {sz p q a c d e : Int} {s : Store} (o3 o4 o5 o8 : Option B) {x : D} {ys : List D} (hx : Pm x) (hy : ∀ y ∈ ys, Pm y) (hl : ys.length ≤ 9) :
    (match bindT (.nm 8) x (rG sz p q a c d e o3 o4 o5 o8 ys) with
          | none => RS.bad
          | some ρ => Zw.execs (gx (n + 7)) [(.ite (.cmp .ne (.b1 .repr (cG 18)) (.b1 .repr (cG 27))) [(.ret (.cst (.bl false)))] [])] ρ s) = .nx (rG sz p q a c d e o3 o4 o5 (some (.t x)) ys) s := by
  have c1 := cG_ok 18 n (sz := sz) (p := p) (q := q) (a := a) (c := c) (d := d) (e := e) (s := s) o3 o4 o5 hx hy hl (fun y h s => by
    obtain ⟨a, b, c, rfl, k1, k2, k3, k4⟩ := hx
    obtain ⟨d, e, f, rfl, l1, l2, l3, l4⟩ := hy y h
    exact cs_t2 (crossing_ok (n + 4) k4 l4 k1 k2 k3 l1 l2 l3) s)
  have c2 := cG_ok 27 n (sz := sz) (p := p) (q := q) (a := a) (c := c) (d := d) (e := e) (s := s) o3 o4 o5 hx hy hl (fun y h s => by
    obtain ⟨a, b, c, rfl, k1, k2, k3, k4⟩ := hx
    obtain ⟨d, e, f, rfl, l1, l2, l3, l4⟩ := hy y h
    exact cs_t2 (lcross_ok (n + 5) k1 k2 k3 l1 l2 l3) s)
  have rp := crs_repr hx hy hl
  generalize ys.map (crV x) = vs at *
  generalize cG 18 = C1 at *
  generalize cG 27 = C2 at *
  unfold rG at *
  simp [gx_fn, runF, enter, B.par, Zw.execs, Zw.exec, Zw.ev, evl, evs, evg, evO, evAnd, evOr, evConds, evT, R.bind, R.to, R.of, readV, truB, B.look, B.peek, B.frz, B.give, B.still, B.bl?, D.tru, op2, opAdd, opSub, opMul, opMod, opFdiv, opPow, cmp2, cmLt, cmI, cmN, cmIn, D.isNon, bi1, bi2, biLen, biAbs, biInt, biAll, biTuple, biList, biSum, bi2I, ty_int, ty_bool, ty_tup, blsOf, Zw.still, ixD, ixN, itemsD, wipe, bindT, bindTs, seens, B.seen, Zw.walk, frzs, setAll, gives, eqOk_int, eqB_int, compL, len2, len3, eqOk_pt, eqB_pt, lstAt, lstPut, slice, cut, sIx, Zw.line, c1, c2, rp, str_ok, eqB_str]
theorem segE (n : Nat) {sz p q a c d e : Int} {s : Store} (o3 o4 o5 : Option B) {ys : List D} (hy : ∀ y ∈ ys, Pm y) (hl : ys.length ≤ 9) :
    Zw.execs (gx (n + 7)) (f__law_right.body.drop 9) (rG sz p q a c d e o3 o4 o5 none ys) s = .rt (.t (.bl true)) s := by
  have go : ∀ (xs : List D) (o8 : Option B), (∀ y ∈ xs, Pm y) → ∃ o8', forL false s.length (fun x ρ s => match bindT (.nm 8) x ρ with
          | none => RS.bad
          | some ρ => Zw.execs (gx (n + 7)) [(.ite (.cmp .ne (.b1 .repr (cG 18)) (.b1 .repr (cG 27))) [(.ret (.cst (.bl false)))] [])] ρ s) xs (rG sz p q a c d e o3 o4 o5 o8 ys) s = .nx (rG sz p q a c d e o3 o4 o5 o8' ys) s := by
    intro xs
    induction xs with
    | nil => exact fun o8 _ => ⟨o8, rfl⟩
    | cons x xs ih =>
      intro o8 h
      obtain ⟨o8', e9⟩ := ih (some (.t x)) (fun y hy => h y (List.mem_cons_of_mem _ hy))
      have t := turnG n (sz := sz) (p := p) (q := q) (a := a) (c := c) (d := d) (e := e) (s := s) o3 o4 o5 o8 (h x List.mem_cons_self) hy hl
      refine ⟨o8', ?_⟩
      rw [forL, t]
      exact e9
  obtain ⟨o8, e1⟩ := go ys none hy
  have e0 : f__law_right.body.drop 9 = [.for_ false 0 [(.var 7)] (.nm 8) [(.ite (.cmp .ne (.b1 .repr (cG 18)) (.b1 .repr (cG 27))) [(.ret (.cst (.bl false)))] [])], .ret (.cst (.bl true))] := rfl
  rw [e0, Zw.execs, exec_for_of (bs := [.t (.lst ys)]) (s1 := s) (xs := ys) (by simp [gx_fn, runF, enter, B.par, Zw.execs, Zw.exec, Zw.ev, evl, evs, evg, evO, evAnd, evOr, evConds, evT, R.bind, R.to, R.of, readV, truB, B.look, B.peek, B.frz, B.give, B.still, B.bl?, D.tru, op2, opAdd, opSub, opMul, opMod, opFdiv, opPow, cmp2, cmLt, cmI, cmN, cmIn, D.isNon, bi1, bi2, biLen, biAbs, biInt, biAll, biTuple, biList, biSum, bi2I, ty_int, ty_bool, ty_tup, blsOf, Zw.still, ixD, ixN, itemsD, wipe, bindT, bindTs, seens, B.seen, Zw.walk, frzs, setAll, gives, eqOk_int, eqB_int, compL, len2, len3, eqOk_pt, eqB_pt, lstAt, lstPut, slice, cut, sIx, Zw.line]) rfl]
  have key : ∀ r : RS, r = .nx (rG sz p q a c d e o3 o4 o5 o8 ys) s → (match r with
      | .nx ρ' s' => Zw.execs (gx (n + 7)) [.ret (.cst (.bl true))] ρ' s'
      | r => r) = .rt (.t (.bl true)) s := fun r h => by rw [h]; simp [gx_fn, runF, enter, B.par, Zw.execs, Zw.exec, Zw.ev, evl, evs, evg, evO, evAnd, evOr, evConds, evT, R.bind, R.to, R.of, readV, truB, B.look, B.peek, B.frz, B.give, B.still, B.bl?, D.tru, op2, opAdd, opSub, opMul, opMod, opFdiv, opPow, cmp2, cmLt, cmI, cmN, cmIn, D.isNon, bi1, bi2, biLen, biAbs, biInt, biAll, biTuple, biList, biSum, bi2I, ty_int, ty_bool, ty_tup, blsOf, Zw.still, ixD, ixN, itemsD, wipe, bindT, bindTs, seens, B.seen, Zw.walk, frzs, setAll, gives, eqOk_int, eqB_int, compL, len2, len3, eqOk_pt, eqB_pt, lstAt, lstPut, slice, cut, sIx, Zw.line]
  exact key _ e1
theorem right_ok (n : Nat) {g b : Int} (h : Gd g b) : ∃ g' b', md.call (n + 8) 32 [.r 0] [bag g b] = .ok (.t (.bl true)) [bag g' b'] ∧ Gd g' b' := by
  obtain ⟨sz, p, q, a, c, d, e, g1, b1, eA, s0, bz, hw, gd1⟩ := segA (n + 2) h
  obtain ⟨o3, o4, o5, g2, b2, eB, gd2⟩ := segB n gd1 s0 bz hw
  obtain ⟨o3', xs, g3, b3, eC, hl, hp, gd3⟩ := segC n (p := p) (q := q) (a := a) (c := c) (d := d) (e := e) gd2 s0 o3 o4 o5
  obtain ⟨z1, z2, z3, z4, z5, z6⟩ := bz
  obtain ⟨ys, eD, hl2, hp2⟩ := segD n (sz := sz) (g := g3) (b := b3) (bz21 s0 z1) (bz21 s0 z2) (bz21 s0 z3) (bz21 s0 z4) (bz21 s0 z5) (bz21 s0 z6) hw o3' o4 o5 hl hp
  have eE := segE n (sz := sz) (p := p) (q := q) (a := a) (c := c) (d := d) (e := e) (s := [bag g3 b3]) o3' o4 o5 hp2 hl2
  refine ⟨g3, b3, ?_, gd3⟩
  rw [u__law_right]
  have tot : Zw.execs (gx (n + 7)) f__law_right.body (enter f__law_right [.r 0]) [bag g b] = .rt (.t (.bl true)) [bag g3 b3] := by
    refine (execs_nx 4 eA).trans ?_
    refine (execs_nx 1 eB).trans ?_
    refine (execs_nx 2 eC).trans ?_
    exact (execs_nx 2 eD).trans eE
  unfold runF
  rw [if_pos (show [B.r 0].length = f__law_right.params from rfl), tot]
  rfl
end Law
set_option linter.all false
set_option maxRecDepth 100000
set_option maxHeartbeats 4000000
set_option exponentiation.threshold 5000
namespace Law
open Zw PySem
abbrev cR : CE := .comp 1 [(.cst (.int 6))] (.nm 3) [3] [(.notv (.call 32 [(.var 2)]))] (.cst (.int 1))
abbrev rL (L : D) (o1 o2 : Option B) : Zw.Env := [some (.sc L), o1, o2, none, none, none, none]
theorem rights_ok (n : Nat) (L x : D) {g b : Int} (h : Gd g b) : ∃ g' b', ev (gx (n + 8)) cR (rL L (some (.t x)) (some (.r 0))) [bag g b] = .ok (.own (.lst [])) [bag g' b'] ∧ Gd g' b' := by
  obtain ⟨s', e, g', b', hs, gd⟩ := compL_inv (f := turnC (gx (n + 8)) (.nm 3) [3] [(.notv (.call 32 [(.var 2)]))] (.cst (.int 1)) (rL L (some (.t x)) (some (.r 0)))) (fun s => ∃ g b, s = [bag g b] ∧ Gd g b) (fun z s hz => by
    obtain ⟨g, b, rfl, gd⟩ := hz
    obtain ⟨g', b', e, gd'⟩ := right_ok n gd
    have e := cs_r1 e
    exact ⟨[bag g' b'], by simp [gx_fn, runF, enter, B.par, Zw.execs, Zw.exec, Zw.ev, evl, evs, evg, evO, evAnd, evOr, evConds, evT, R.bind, R.to, R.of, readV, truB, B.look, B.peek, B.frz, B.give, B.still, B.bl?, D.tru, op2, opAdd, opSub, opMul, opMod, opFdiv, opPow, cmp2, cmLt, cmI, cmN, cmIn, D.isNon, bi1, bi2, biLen, biAbs, biInt, biAll, biTuple, biList, biSum, bi2I, ty_int, ty_bool, ty_tup, blsOf, Zw.still, ixD, ixN, itemsD, wipe, bindT, bindTs, seens, B.seen, Zw.walk, frzs, setAll, gives, eqOk_int, eqB_int, compL, len2, len3, eqOk_pt, eqB_pt, lstAt, lstPut, slice, cut, sIx, Zw.line, turnC, e], g', b', rfl, gd'⟩) ((List.range 6).map fun (k : Nat) => D.int (0 + (k : Int))) [] [bag g b] ⟨g, b, rfl, h⟩
  subst hs
  exact ⟨g', b', ev_comp_st (bs := [.t (.int 6)]) (s1 := [bag g b]) (by simp [evl, ev, R.bind, B.still]) rfl e, gd⟩
theorem loop_ok (n : Nat) (ns : List Int) (hn : ns.length ≤ 63) : ∃ o, Zw.execs (gx (n + 8)) (f_law.body.take 1) (rL (.lst (ns.map D.int)) none none) [] = .nx (rL (.lst (ns.map D.int)) o none) [] := by
  simp only [f_law, List.take]
  generalize hK : (if (if (ns.length : Int) < 4 then (ns.length : Int) else 4) > 1 then (if (ns.length : Int) < 4 then (ns.length : Int) else 4) else 1) = K
  have k1 : 1 ≤ K := by rw [← hK]; split <;> omega
  have k4 : K ≤ 4 := by rw [← hK]; split <;> split <;> omega
  have hits : evl (gx (n + 8)) [(.b2 .max2 (.cst (.int 1)) (.b2 .min2 (.cst (.int 4)) (.b1 .len (.var 0))))] (rL (.lst (ns.map D.int)) none none) [] = .ok [.t (.int K)] [] := by
    simp [gx_fn, runF, enter, B.par, Zw.execs, Zw.exec, Zw.ev, evl, evs, evg, evO, evAnd, evOr, evConds, evT, R.bind, R.to, R.of, readV, truB, B.look, B.peek, B.frz, B.give, B.still, B.bl?, D.tru, op2, opAdd, opSub, opMul, opMod, opFdiv, opPow, cmp2, cmLt, cmI, cmN, cmIn, D.isNon, bi1, bi2, biLen, biAbs, biInt, biAll, biTuple, biList, biSum, bi2I, ty_int, ty_bool, ty_tup, blsOf, Zw.still, ixD, ixN, itemsD, wipe, bindT, bindTs, seens, B.seen, Zw.walk, frzs, setAll, gives, eqOk_int, eqB_int, compL, len2, len3, eqOk_pt, eqB_pt, lstAt, lstPut, slice, cut, sIx, Zw.line]
    exact hK
  have hwalk : (frzs [.t (.int K)]).bind (walk 1) = some ((List.range K.toNat).map fun (k : Nat) => D.int (0 + (k : Int))) := by
    show rangeD 0 K = _
    unfold rangeD
    rw [if_pos ⟨by decide, by decide, by omega, by omega⟩, Int.sub_zero]
  obtain ⟨ρ', s', e, rfl, o, rfl⟩ := forLc_inv (n := 0) (f := fun x ρ s => match bindT (.nm 1) x ρ with
          | none => .bad
          | some ρ => Zw.execs (gx (n + 8)) [(.asg 2 (.call 19 [(.var 0), (.var 1)])), (.mv 2), (.ite (.cmp .ne cR (.lst [])) [(.ret (.cst (.bl false)))] [])] ρ s)
      (fun ρ s => s = [] ∧ ∃ o, ρ = rL (.lst (ns.map D.int)) o none) ((List.range K.toNat).map fun (k : Nat) => D.int (0 + (k : Int))) (fun x hx ρ s hp => by
    obtain ⟨rfl, o, rfl⟩ := hp
    obtain ⟨k, hk, rfl⟩ := List.mem_map.mp hx
    have hk := List.mem_range.mp hk
    obtain ⟨g, b, e1, gd⟩ := bag_ok (n + 7) (ns := ns) (at_ := 0 + (k : Int)) (by omega) (by omega)
    have e1 := cs_st e1
    obtain ⟨g', b', e2, gd'⟩ := rights_ok n (.lst (ns.map D.int)) (.int (0 + (k : Int))) gd
    generalize (0 + (k : Int)) = kk at *
    generalize cR = C at *
    have he : eqOk (.lst []) (.lst []) = true := rfl
    have hb : eqB (.lst []) (.lst []) = true := rfl
    refine ⟨rL (.lst (ns.map D.int)) (some (.t (.int kk))) (some (.r 0)), [bag g' b'], ?_, rfl, some (.t (.int kk)), rfl⟩
    unfold rL at *
    simp [gx_fn, runF, enter, B.par, Zw.execs, Zw.exec, Zw.ev, evl, evs, evg, evO, evAnd, evOr, evConds, evT, R.bind, R.to, R.of, readV, truB, B.look, B.peek, B.frz, B.give, B.still, B.bl?, D.tru, op2, opAdd, opSub, opMul, opMod, opFdiv, opPow, cmp2, cmLt, cmI, cmN, cmIn, D.isNon, bi1, bi2, biLen, biAbs, biInt, biAll, biTuple, biList, biSum, bi2I, ty_int, ty_bool, ty_tup, blsOf, Zw.still, ixD, ixN, itemsD, wipe, bindT, bindTs, seens, B.seen, Zw.walk, frzs, setAll, gives, eqOk_int, eqB_int, compL, len2, len3, eqOk_pt, eqB_pt, lstAt, lstPut, slice, cut, sIx, Zw.line, e1, e2, he, hb]) (rL (.lst (ns.map D.int)) none none) [] ⟨rfl, none, rfl⟩
  refine ⟨o, ?_⟩
  rw [Zw.execs, exec_for_of hits hwalk]
  have key : ∀ r : RS, r = .nx (rL (.lst (ns.map D.int)) o none) [] → (match r with
      | .nx ρ' s' => Zw.execs (gx (n + 8)) [] ρ' s'
      | r => r) = .nx (rL (.lst (ns.map D.int)) o none) [] := fun r h => by rw [h]; simp [Zw.execs]
  exact key _ e
theorem main (ns : List Int) (hn : ns.length ≤ 63) (_ : ∀ x ∈ ns, Builtin.Int.intBits x ≤ 1048576) : md.call (60 + 1) 33 [.sc (.lst (ns.map D.int))] [] = .ok (.t (.bl true)) [] := by
  obtain ⟨o, e⟩ := loop_ok 52 ns hn
  rw [u_law]
  have hw : wedgeB (Wd 0 0 4 1 1 4) = true := by decide +kernel
  have pl : ∀ x u y v, placeB (Pc x u y v) = true → x.natAbs ≤ 10 → u.natAbs ≤ 10 → y.natAbs ≤ 10 → v.natAbs ≤ 10 → ∀ s, callS (md.call 60 17) [.t (Wd 0 0 4 1 1 4), .t (Pc x u y v)] s = .ok (.t (.bl ((pls 0 0 4 1 1 4).all (undD x u y v)))) s := fun x u y v h h1 h2 h3 h4 s =>
    cs_t2 (holds_ok 54 hw h (by decide) (by decide) (by decide) (by decide) (by decide) (by decide) (ct10 h1) (ct10 h2) (ct10 h3) (ct10 h4)) s
  have w1 := pl 1 2 1 2 (by decide +kernel) (by decide) (by decide) (by decide) (by decide)
  have w2 := pl 1 1 0 1 (by decide +kernel) (by decide) (by decide) (by decide) (by decide)
  have w3 := pl 0 1 0 1 (by decide +kernel) (by decide) (by decide) (by decide) (by decide)
  have w4 := pl 4 1 1 1 (by decide +kernel) (by decide) (by decide) (by decide) (by decide)
  rw [show (pls 0 0 4 1 1 4).all (undD 1 2 1 2) = true from by decide +kernel] at w1
  rw [show (pls 0 0 4 1 1 4).all (undD 1 1 0 1) = false from by decide +kernel] at w2
  rw [show (pls 0 0 4 1 1 4).all (undD 0 1 0 1) = true from by decide +kernel] at w3
  rw [show (pls 0 0 4 1 1 4).all (undD 4 1 1 1) = true from by decide +kernel] at w4
  have w5 := cs_t2 (crossing_ok 57 (a := 1) (b := -4) (c := 0) (d := 0) (e := 1) (f := 3) (by decide) (by decide) (by decide) (by decide) (by decide) (by decide) (by decide) (by decide))
  rw [show crossD 1 (-4) 0 0 1 3 = .tup [Pt 12 1, Pt 3 1] from by rfl] at w5
  have rp : reprOk (.lst [.bl true, .bl false, .bl true, .bl true, .tup [Pt 12 1, Pt 3 1]]) = true :=
    reprOk_of (by simp [D.Fine, D.Fines]) (by simp [D.wt, D.wts, Zw.line]) (by simp [D.dep, D.deps])
  have t : ∀ o, Zw.execs (gx 60) (f_law.body.drop 1) (rL (.lst (ns.map D.int)) o none) [] = .rt (.t (.bl true)) [] := by
    intro o
    simp only [f_law, List.drop]
    unfold rL
    simp at w1 w2 w3 w4 w5
    simp [gx_fn, runF, enter, B.par, Zw.execs, Zw.exec, Zw.ev, evl, evs, evg, evO, evAnd, evOr, evConds, evT, R.bind, R.to, R.of, readV, truB, B.look, B.peek, B.frz, B.give, B.still, B.bl?, D.tru, op2, opAdd, opSub, opMul, opMod, opFdiv, opPow, cmp2, cmLt, cmI, cmN, cmIn, D.isNon, bi1, bi2, biLen, biAbs, biInt, biAll, biTuple, biList, biSum, bi2I, ty_int, ty_bool, ty_tup, blsOf, Zw.still, ixD, ixN, itemsD, wipe, bindT, bindTs, seens, B.seen, Zw.walk, frzs, setAll, gives, eqOk_int, eqB_int, compL, len2, len3, eqOk_pt, eqB_pt, lstAt, lstPut, slice, cut, sIx, Zw.line, w1, w2, w3, w4, w5, turnC, rp, str_ok, eqB_str]
  have tot : Zw.execs (gx 60) f_law.body (enter f_law [.sc (.lst (ns.map D.int))]) [] = .rt (.t (.bl true)) [] := (execs_nx 1 e).trans (t o)
  unfold runF
  rw [if_pos (show [B.sc (.lst (ns.map D.int))].length = f_law.params from rfl), tot]
  rfl
end Law
set_option maxHeartbeats 0
namespace Law
open Zw PySem PySem.Spec PyProof.Rows L2
def top (i : Nat) : Stmt := PySem.Challenge.pw_leastburn_k70_whole_places_in_wedges.main.body.getD i (.Pass ⟨0, 0, 0, 0⟩)
def n_is_whole : List Str := [Str.ofString "value"]
def i_is_whole : FnI := ⟨Str.ofString "is_whole", top 6, n_is_whole, f_is_whole⟩
def n_lowest : List Str := [Str.ofString "top", Str.ofString "bottom", Str.ofString "sign", Str.ofString "shared"]
def i_lowest : FnI := ⟨Str.ofString "lowest", top 8, n_lowest, f_lowest⟩
def n_turn_in : List Str := [Str.ofString "one", Str.ofString "other"]
def i_turn_in : FnI := ⟨Str.ofString "turn_in", top 9, n_turn_in, f_turn_in⟩
def n_along_in : List Str := [Str.ofString "one", Str.ofString "other"]
def i_along_in : FnI := ⟨Str.ofString "along_in", top 10, n_along_in, f_along_in⟩
def n_is_point_of : List Str := [Str.ofString "value", Str.ofString "one"]
def i_is_point_of : FnI := ⟨Str.ofString "is_point_of", top 11, n_is_point_of, f_is_point_of⟩
def n_is_direction_of : List Str := [Str.ofString "value"]
def i_is_direction_of : FnI := ⟨Str.ofString "is_direction_of", top 12, n_is_direction_of, f_is_direction_of⟩
def n_is_integer_of : List Str := [Str.ofString "value"]
def i_is_integer_of : FnI := ⟨Str.ofString "is_integer_of", top 13, n_is_integer_of, f_is_integer_of⟩
def n_is_fraction_of : List Str := [Str.ofString "value", Str.ofString "one"]
def i_is_fraction_of : FnI := ⟨Str.ofString "is_fraction_of", top 14, n_is_fraction_of, f_is_fraction_of⟩
def n_is_wedge_of : List Str := [Str.ofString "value", Str.ofString "found"]
def i_is_wedge_of : FnI := ⟨Str.ofString "is_wedge_of", top 15, n_is_wedge_of, f_is_wedge_of⟩
def n_is_half_of : List Str := [Str.ofString "value", Str.ofString "one"]
def i_is_half_of : FnI := ⟨Str.ofString "is_half_of", top 16, n_is_half_of, f_is_half_of⟩
def n_halves_in : List Str := [Str.ofString "wedge", Str.ofString "p", Str.ofString "q", Str.ofString "a", Str.ofString "b", Str.ofString "c", Str.ofString "d", Str.ofString "found"]
def i_halves_in : FnI := ⟨Str.ofString "halves_in", top 17, n_halves_in, f_halves_in⟩
def n_is_below : List Str := [Str.ofString "half", Str.ofString "place", Str.ofString "a", Str.ofString "b", Str.ofString "c", Str.ofString "x", Str.ofString "under_x", Str.ofString "y", Str.ofString "under_y"]
def i_is_below : FnI := ⟨Str.ofString "is_below", top 18, n_is_below, f_is_below⟩
def n_is_held : List Str := [Str.ofString "wedge", Str.ofString "place", Str.ofString "half"]
def i_is_held : FnI := ⟨Str.ofString "is_held", top 19, n_is_held, f_is_held⟩
def n_crossing_in : List Str := [Str.ofString "one", Str.ofString "other", Str.ofString "a", Str.ofString "b", Str.ofString "c", Str.ofString "d", Str.ofString "e", Str.ofString "f", Str.ofString "under"]
def i_crossing_in : FnI := ⟨Str.ofString "crossing_in", top 20, n_crossing_in, f_crossing_in⟩
def n_require_wedge : List Str := [Str.ofString "value"]
def i_require_wedge : FnI := ⟨Str.ofString "require_wedge", top 21, n_require_wedge, f_require_wedge⟩
def n_is_place : List Str := [Str.ofString "value", Str.ofString "one"]
def i_is_place : FnI := ⟨Str.ofString "is_place", top 22, n_is_place, f_is_place⟩
def n_half_planes : List Str := [Str.ofString "wedge"]
def i_half_planes : FnI := ⟨Str.ofString "half_planes", top 23, n_half_planes, f_half_planes⟩
def n_holds : List Str := [Str.ofString "wedge", Str.ofString "place"]
def i_holds : FnI := ⟨Str.ofString "holds", top 24, n_holds, f_holds⟩
def n_crossing : List Str := [Str.ofString "one", Str.ofString "other", Str.ofString "half"]
def i_crossing : FnI := ⟨Str.ofString "crossing", top 25, n_crossing, f_crossing⟩
def n__law_bag : List Str := [Str.ofString "script", Str.ofString "at", Str.ofString "cell", Str.ofString "great", Str.ofString "blend"]
def i__law_bag : FnI := ⟨Str.ofString "_law_bag", top 27, n__law_bag, f__law_bag⟩
def n__law_draw : List Str := [Str.ofString "bag", Str.ofString "many", Str.ofString "found"]
def i__law_draw : FnI := ⟨Str.ofString "_law_draw", top 28, n__law_draw, f__law_draw⟩
def n__law_one_of : List Str := [Str.ofString "bag", Str.ofString "items"]
def i__law_one_of : FnI := ⟨Str.ofString "_law_one_of", top 29, n__law_one_of, f__law_one_of⟩
def n__law_turn : List Str := [Str.ofString "one", Str.ofString "other"]
def i__law_turn : FnI := ⟨Str.ofString "_law_turn", top 30, n__law_turn, f__law_turn⟩
def n__law_dot : List Str := [Str.ofString "one", Str.ofString "other"]
def i__law_dot : FnI := ⟨Str.ofString "_law_dot", top 31, n__law_dot, f__law_dot⟩
def n__law_lowest : List Str := [Str.ofString "top", Str.ofString "bottom", Str.ofString "one", Str.ofString "other", Str.ofString "sign"]
def i__law_lowest : FnI := ⟨Str.ofString "_law_lowest", top 32, n__law_lowest, f__law_lowest⟩
def n__law_planes : List Str := [Str.ofString "wedge", Str.ofString "p", Str.ofString "q", Str.ofString "a", Str.ofString "b", Str.ofString "c", Str.ofString "d", Str.ofString "found"]
def i__law_planes : FnI := ⟨Str.ofString "_law_planes", top 33, n__law_planes, f__law_planes⟩
def n__law_does_hold : List Str := [Str.ofString "wedge", Str.ofString "place", Str.ofString "p", Str.ofString "q", Str.ofString "right", Str.ofString "left", Str.ofString "x", Str.ofString "under", Str.ofString "y", Str.ofString "below", Str.ofString "far"]
def i__law_does_hold : FnI := ⟨Str.ofString "_law_does_hold", top 34, n__law_does_hold, f__law_does_hold⟩
def n__law_crossing : List Str := [Str.ofString "one", Str.ofString "other", Str.ofString "det", Str.ofString "x", Str.ofString "y"]
def i__law_crossing : FnI := ⟨Str.ofString "_law_crossing", top 35, n__law_crossing, f__law_crossing⟩
def n__law_direction : List Str := [Str.ofString "bag", Str.ofString "size", Str.ofString "found", Str.ofString "turn"]
def i__law_direction : FnI := ⟨Str.ofString "_law_direction", top 36, n__law_direction, f__law_direction⟩
def n__law_wedge : List Str := [Str.ofString "bag", Str.ofString "size", Str.ofString "tower", Str.ofString "right", Str.ofString "many", Str.ofString "left"]
def i__law_wedge : FnI := ⟨Str.ofString "_law_wedge", top 37, n__law_wedge, f__law_wedge⟩
def n__law_place : List Str := [Str.ofString "bag", Str.ofString "wedge", Str.ofString "size", Str.ofString "p", Str.ofString "q", Str.ofString "a", Str.ofString "b", Str.ofString "c", Str.ofString "d", Str.ofString "one", Str.ofString "other", Str.ofString "under", Str.ofString "found"]
def i__law_place : FnI := ⟨Str.ofString "_law_place", top 38, n__law_place, f__law_place⟩
def n__law_is_under : List Str := [Str.ofString "plane", Str.ofString "place", Str.ofString "x", Str.ofString "under", Str.ofString "y", Str.ofString "below"]
def i__law_is_under : FnI := ⟨Str.ofString "_law_is_under", top 39, n__law_is_under, f__law_is_under⟩
def n__law_right : List Str := [Str.ofString "bag", Str.ofString "size", Str.ofString "wedge", Str.ofString "turn", Str.ofString "place", Str.ofString "due", Str.ofString "plane", Str.ofString "planes", Str.ofString "one", Str.ofString "other"]
def i__law_right : FnI := ⟨Str.ofString "_law_right", top 40, n__law_right, f__law_right⟩
def n_law : List Str := [Str.ofString "script", Str.ofString "at", Str.ofString "bag", Str.ofString "turn", Str.ofString "east", Str.ofString "told", Str.ofString "place"]
def i_law : FnI := ⟨Str.ofString "law", top 41, n_law, f_law⟩
def fnm0 : List Str := [Str.ofString "is_whole", Str.ofString "lowest", Str.ofString "turn_in", Str.ofString "along_in", Str.ofString "is_point_of", Str.ofString "is_direction_of", Str.ofString "is_integer_of", Str.ofString "is_fraction_of"]
def fnm1 : List Str := [Str.ofString "is_wedge_of", Str.ofString "is_half_of", Str.ofString "halves_in", Str.ofString "is_below", Str.ofString "is_held", Str.ofString "crossing_in", Str.ofString "require_wedge", Str.ofString "is_place"]
def fnm2 : List Str := [Str.ofString "half_planes", Str.ofString "holds", Str.ofString "crossing", Str.ofString "_law_bag", Str.ofString "_law_draw", Str.ofString "_law_one_of", Str.ofString "_law_turn", Str.ofString "_law_dot"]
def fnm3 : List Str := [Str.ofString "_law_lowest", Str.ofString "_law_planes", Str.ofString "_law_does_hold", Str.ofString "_law_crossing", Str.ofString "_law_direction", Str.ofString "_law_wedge", Str.ofString "_law_place", Str.ofString "_law_is_under"]
def fnm4 : List Str := [Str.ofString "_law_right", Str.ofString "law"]
def fnm : List Str := fnm0 ++ fnm1 ++ fnm2 ++ fnm3 ++ fnm4
def gcn0 : List Str := [Str.ofString "GREAT"]
def gcn : List Str := gcn0
def free0 : List Str := [Str.ofString "len", Str.ofString "isinstance", Str.ofString "int", Str.ofString "bool", Str.ofString "tuple", Str.ofString "list", Str.ofString "range", Str.ofString "max"]
def free1 : List Str := [Str.ofString "min", Str.ofString "abs", Str.ofString "repr", Str.ofString "all"]
def free : List Str := free0 ++ free1
def loose0 : List Str := [Str.ofString "FireError", Str.ofString "InvalidPoint", Str.ofString "GREAT", Str.ofString "is_whole", Str.ofString "lowest", Str.ofString "turn_in", Str.ofString "along_in", Str.ofString "is_point_of"]
def loose1 : List Str := [Str.ofString "is_direction_of", Str.ofString "is_integer_of", Str.ofString "is_fraction_of", Str.ofString "is_wedge_of", Str.ofString "is_half_of", Str.ofString "halves_in", Str.ofString "is_below", Str.ofString "is_held"]
def loose2 : List Str := [Str.ofString "crossing_in", Str.ofString "require_wedge", Str.ofString "is_place", Str.ofString "half_planes", Str.ofString "holds", Str.ofString "crossing", Str.ofString "_law_bag", Str.ofString "_law_draw"]
def loose3 : List Str := [Str.ofString "_law_one_of", Str.ofString "_law_turn", Str.ofString "_law_dot", Str.ofString "_law_lowest", Str.ofString "_law_planes", Str.ofString "_law_does_hold", Str.ofString "_law_crossing", Str.ofString "_law_direction"]
def loose4 : List Str := [Str.ofString "_law_wedge", Str.ofString "_law_place", Str.ofString "_law_is_under", Str.ofString "_law_right"]
def loose : List Str := loose0 ++ loose1 ++ loose2 ++ loose3 ++ loose4
def lw : Lw := ⟨⟨fnm, gcn, free, true⟩, md.gcs, [i_is_whole, i_lowest, i_turn_in, i_along_in, i_is_point_of, i_is_direction_of, i_is_integer_of, i_is_fraction_of, i_is_wedge_of, i_is_half_of, i_halves_in, i_is_below, i_is_held, i_crossing_in, i_require_wedge, i_is_place, i_half_planes, i_holds, i_crossing, i__law_bag, i__law_draw, i__law_one_of, i__law_turn, i__law_dot, i__law_lowest, i__law_planes, i__law_does_hold, i__law_crossing, i__law_direction, i__law_wedge, i__law_place, i__law_is_under, i__law_right, i_law]⟩
theorem md_eq : lw.md = md := rfl
theorem lw_ok : lw.ok 80 = true := by decide +kernel
theorem b_is_whole (kV doc pm : Value) (an : Option Addr) (cdv ct : Value) (us : List Value) (h : us.length = i_is_whole.ps.length) : bindArgs (PySem.W.fnOf i_is_whole.x i_is_whole.x (defArgs i_is_whole.st) (defBody i_is_whole.st) (defScope i_is_whole.st) .none kV doc pm an cdv ct) ⟨us, []⟩ = pure (i_is_whole.ps.zip us) := match us, h with | [_], _ => rfl
theorem b_lowest (kV doc pm : Value) (an : Option Addr) (cdv ct : Value) (us : List Value) (h : us.length = i_lowest.ps.length) : bindArgs (PySem.W.fnOf i_lowest.x i_lowest.x (defArgs i_lowest.st) (defBody i_lowest.st) (defScope i_lowest.st) .none kV doc pm an cdv ct) ⟨us, []⟩ = pure (i_lowest.ps.zip us) := match us, h with | [_, _], _ => rfl
theorem b_turn_in (kV doc pm : Value) (an : Option Addr) (cdv ct : Value) (us : List Value) (h : us.length = i_turn_in.ps.length) : bindArgs (PySem.W.fnOf i_turn_in.x i_turn_in.x (defArgs i_turn_in.st) (defBody i_turn_in.st) (defScope i_turn_in.st) .none kV doc pm an cdv ct) ⟨us, []⟩ = pure (i_turn_in.ps.zip us) := match us, h with | [_, _], _ => rfl
theorem b_along_in (kV doc pm : Value) (an : Option Addr) (cdv ct : Value) (us : List Value) (h : us.length = i_along_in.ps.length) : bindArgs (PySem.W.fnOf i_along_in.x i_along_in.x (defArgs i_along_in.st) (defBody i_along_in.st) (defScope i_along_in.st) .none kV doc pm an cdv ct) ⟨us, []⟩ = pure (i_along_in.ps.zip us) := match us, h with | [_, _], _ => rfl
theorem b_is_point_of (kV doc pm : Value) (an : Option Addr) (cdv ct : Value) (us : List Value) (h : us.length = i_is_point_of.ps.length) : bindArgs (PySem.W.fnOf i_is_point_of.x i_is_point_of.x (defArgs i_is_point_of.st) (defBody i_is_point_of.st) (defScope i_is_point_of.st) .none kV doc pm an cdv ct) ⟨us, []⟩ = pure (i_is_point_of.ps.zip us) := match us, h with | [_], _ => rfl
theorem b_is_direction_of (kV doc pm : Value) (an : Option Addr) (cdv ct : Value) (us : List Value) (h : us.length = i_is_direction_of.ps.length) : bindArgs (PySem.W.fnOf i_is_direction_of.x i_is_direction_of.x (defArgs i_is_direction_of.st) (defBody i_is_direction_of.st) (defScope i_is_direction_of.st) .none kV doc pm an cdv ct) ⟨us, []⟩ = pure (i_is_direction_of.ps.zip us) := match us, h with | [_], _ => rfl
theorem b_is_integer_of (kV doc pm : Value) (an : Option Addr) (cdv ct : Value) (us : List Value) (h : us.length = i_is_integer_of.ps.length) : bindArgs (PySem.W.fnOf i_is_integer_of.x i_is_integer_of.x (defArgs i_is_integer_of.st) (defBody i_is_integer_of.st) (defScope i_is_integer_of.st) .none kV doc pm an cdv ct) ⟨us, []⟩ = pure (i_is_integer_of.ps.zip us) := match us, h with | [_], _ => rfl
theorem b_is_fraction_of (kV doc pm : Value) (an : Option Addr) (cdv ct : Value) (us : List Value) (h : us.length = i_is_fraction_of.ps.length) : bindArgs (PySem.W.fnOf i_is_fraction_of.x i_is_fraction_of.x (defArgs i_is_fraction_of.st) (defBody i_is_fraction_of.st) (defScope i_is_fraction_of.st) .none kV doc pm an cdv ct) ⟨us, []⟩ = pure (i_is_fraction_of.ps.zip us) := match us, h with | [_], _ => rfl
theorem b_is_wedge_of (kV doc pm : Value) (an : Option Addr) (cdv ct : Value) (us : List Value) (h : us.length = i_is_wedge_of.ps.length) : bindArgs (PySem.W.fnOf i_is_wedge_of.x i_is_wedge_of.x (defArgs i_is_wedge_of.st) (defBody i_is_wedge_of.st) (defScope i_is_wedge_of.st) .none kV doc pm an cdv ct) ⟨us, []⟩ = pure (i_is_wedge_of.ps.zip us) := match us, h with | [_], _ => rfl
theorem b_is_half_of (kV doc pm : Value) (an : Option Addr) (cdv ct : Value) (us : List Value) (h : us.length = i_is_half_of.ps.length) : bindArgs (PySem.W.fnOf i_is_half_of.x i_is_half_of.x (defArgs i_is_half_of.st) (defBody i_is_half_of.st) (defScope i_is_half_of.st) .none kV doc pm an cdv ct) ⟨us, []⟩ = pure (i_is_half_of.ps.zip us) := match us, h with | [_], _ => rfl
theorem b_halves_in (kV doc pm : Value) (an : Option Addr) (cdv ct : Value) (us : List Value) (h : us.length = i_halves_in.ps.length) : bindArgs (PySem.W.fnOf i_halves_in.x i_halves_in.x (defArgs i_halves_in.st) (defBody i_halves_in.st) (defScope i_halves_in.st) .none kV doc pm an cdv ct) ⟨us, []⟩ = pure (i_halves_in.ps.zip us) := match us, h with | [_], _ => rfl
theorem b_is_below (kV doc pm : Value) (an : Option Addr) (cdv ct : Value) (us : List Value) (h : us.length = i_is_below.ps.length) : bindArgs (PySem.W.fnOf i_is_below.x i_is_below.x (defArgs i_is_below.st) (defBody i_is_below.st) (defScope i_is_below.st) .none kV doc pm an cdv ct) ⟨us, []⟩ = pure (i_is_below.ps.zip us) := match us, h with | [_, _], _ => rfl
theorem b_is_held (kV doc pm : Value) (an : Option Addr) (cdv ct : Value) (us : List Value) (h : us.length = i_is_held.ps.length) : bindArgs (PySem.W.fnOf i_is_held.x i_is_held.x (defArgs i_is_held.st) (defBody i_is_held.st) (defScope i_is_held.st) .none kV doc pm an cdv ct) ⟨us, []⟩ = pure (i_is_held.ps.zip us) := match us, h with | [_, _], _ => rfl
theorem b_crossing_in (kV doc pm : Value) (an : Option Addr) (cdv ct : Value) (us : List Value) (h : us.length = i_crossing_in.ps.length) : bindArgs (PySem.W.fnOf i_crossing_in.x i_crossing_in.x (defArgs i_crossing_in.st) (defBody i_crossing_in.st) (defScope i_crossing_in.st) .none kV doc pm an cdv ct) ⟨us, []⟩ = pure (i_crossing_in.ps.zip us) := match us, h with | [_, _], _ => rfl
theorem b_require_wedge (kV doc pm : Value) (an : Option Addr) (cdv ct : Value) (us : List Value) (h : us.length = i_require_wedge.ps.length) : bindArgs (PySem.W.fnOf i_require_wedge.x i_require_wedge.x (defArgs i_require_wedge.st) (defBody i_require_wedge.st) (defScope i_require_wedge.st) .none kV doc pm an cdv ct) ⟨us, []⟩ = pure (i_require_wedge.ps.zip us) := match us, h with | [_], _ => rfl
theorem b_is_place (kV doc pm : Value) (an : Option Addr) (cdv ct : Value) (us : List Value) (h : us.length = i_is_place.ps.length) : bindArgs (PySem.W.fnOf i_is_place.x i_is_place.x (defArgs i_is_place.st) (defBody i_is_place.st) (defScope i_is_place.st) .none kV doc pm an cdv ct) ⟨us, []⟩ = pure (i_is_place.ps.zip us) := match us, h with | [_], _ => rfl
theorem b_half_planes (kV doc pm : Value) (an : Option Addr) (cdv ct : Value) (us : List Value) (h : us.length = i_half_planes.ps.length) : bindArgs (PySem.W.fnOf i_half_planes.x i_half_planes.x (defArgs i_half_planes.st) (defBody i_half_planes.st) (defScope i_half_planes.st) .none kV doc pm an cdv ct) ⟨us, []⟩ = pure (i_half_planes.ps.zip us) := match us, h with | [_], _ => rfl
theorem b_holds (kV doc pm : Value) (an : Option Addr) (cdv ct : Value) (us : List Value) (h : us.length = i_holds.ps.length) : bindArgs (PySem.W.fnOf i_holds.x i_holds.x (defArgs i_holds.st) (defBody i_holds.st) (defScope i_holds.st) .none kV doc pm an cdv ct) ⟨us, []⟩ = pure (i_holds.ps.zip us) := match us, h with | [_, _], _ => rfl
theorem b_crossing (kV doc pm : Value) (an : Option Addr) (cdv ct : Value) (us : List Value) (h : us.length = i_crossing.ps.length) : bindArgs (PySem.W.fnOf i_crossing.x i_crossing.x (defArgs i_crossing.st) (defBody i_crossing.st) (defScope i_crossing.st) .none kV doc pm an cdv ct) ⟨us, []⟩ = pure (i_crossing.ps.zip us) := match us, h with | [_, _], _ => rfl
theorem b__law_bag (kV doc pm : Value) (an : Option Addr) (cdv ct : Value) (us : List Value) (h : us.length = i__law_bag.ps.length) : bindArgs (PySem.W.fnOf i__law_bag.x i__law_bag.x (defArgs i__law_bag.st) (defBody i__law_bag.st) (defScope i__law_bag.st) .none kV doc pm an cdv ct) ⟨us, []⟩ = pure (i__law_bag.ps.zip us) := match us, h with | [_, _], _ => rfl
theorem b__law_draw (kV doc pm : Value) (an : Option Addr) (cdv ct : Value) (us : List Value) (h : us.length = i__law_draw.ps.length) : bindArgs (PySem.W.fnOf i__law_draw.x i__law_draw.x (defArgs i__law_draw.st) (defBody i__law_draw.st) (defScope i__law_draw.st) .none kV doc pm an cdv ct) ⟨us, []⟩ = pure (i__law_draw.ps.zip us) := match us, h with | [_, _], _ => rfl
theorem b__law_one_of (kV doc pm : Value) (an : Option Addr) (cdv ct : Value) (us : List Value) (h : us.length = i__law_one_of.ps.length) : bindArgs (PySem.W.fnOf i__law_one_of.x i__law_one_of.x (defArgs i__law_one_of.st) (defBody i__law_one_of.st) (defScope i__law_one_of.st) .none kV doc pm an cdv ct) ⟨us, []⟩ = pure (i__law_one_of.ps.zip us) := match us, h with | [_, _], _ => rfl
theorem b__law_turn (kV doc pm : Value) (an : Option Addr) (cdv ct : Value) (us : List Value) (h : us.length = i__law_turn.ps.length) : bindArgs (PySem.W.fnOf i__law_turn.x i__law_turn.x (defArgs i__law_turn.st) (defBody i__law_turn.st) (defScope i__law_turn.st) .none kV doc pm an cdv ct) ⟨us, []⟩ = pure (i__law_turn.ps.zip us) := match us, h with | [_, _], _ => rfl
theorem b__law_dot (kV doc pm : Value) (an : Option Addr) (cdv ct : Value) (us : List Value) (h : us.length = i__law_dot.ps.length) : bindArgs (PySem.W.fnOf i__law_dot.x i__law_dot.x (defArgs i__law_dot.st) (defBody i__law_dot.st) (defScope i__law_dot.st) .none kV doc pm an cdv ct) ⟨us, []⟩ = pure (i__law_dot.ps.zip us) := match us, h with | [_, _], _ => rfl
theorem b__law_lowest (kV doc pm : Value) (an : Option Addr) (cdv ct : Value) (us : List Value) (h : us.length = i__law_lowest.ps.length) : bindArgs (PySem.W.fnOf i__law_lowest.x i__law_lowest.x (defArgs i__law_lowest.st) (defBody i__law_lowest.st) (defScope i__law_lowest.st) .none kV doc pm an cdv ct) ⟨us, []⟩ = pure (i__law_lowest.ps.zip us) := match us, h with | [_, _], _ => rfl
theorem b__law_planes (kV doc pm : Value) (an : Option Addr) (cdv ct : Value) (us : List Value) (h : us.length = i__law_planes.ps.length) : bindArgs (PySem.W.fnOf i__law_planes.x i__law_planes.x (defArgs i__law_planes.st) (defBody i__law_planes.st) (defScope i__law_planes.st) .none kV doc pm an cdv ct) ⟨us, []⟩ = pure (i__law_planes.ps.zip us) := match us, h with | [_], _ => rfl
theorem b__law_does_hold (kV doc pm : Value) (an : Option Addr) (cdv ct : Value) (us : List Value) (h : us.length = i__law_does_hold.ps.length) : bindArgs (PySem.W.fnOf i__law_does_hold.x i__law_does_hold.x (defArgs i__law_does_hold.st) (defBody i__law_does_hold.st) (defScope i__law_does_hold.st) .none kV doc pm an cdv ct) ⟨us, []⟩ = pure (i__law_does_hold.ps.zip us) := match us, h with | [_, _], _ => rfl
theorem b__law_crossing (kV doc pm : Value) (an : Option Addr) (cdv ct : Value) (us : List Value) (h : us.length = i__law_crossing.ps.length) : bindArgs (PySem.W.fnOf i__law_crossing.x i__law_crossing.x (defArgs i__law_crossing.st) (defBody i__law_crossing.st) (defScope i__law_crossing.st) .none kV doc pm an cdv ct) ⟨us, []⟩ = pure (i__law_crossing.ps.zip us) := match us, h with | [_, _], _ => rfl
theorem b__law_direction (kV doc pm : Value) (an : Option Addr) (cdv ct : Value) (us : List Value) (h : us.length = i__law_direction.ps.length) : bindArgs (PySem.W.fnOf i__law_direction.x i__law_direction.x (defArgs i__law_direction.st) (defBody i__law_direction.st) (defScope i__law_direction.st) .none kV doc pm an cdv ct) ⟨us, []⟩ = pure (i__law_direction.ps.zip us) := match us, h with | [_, _], _ => rfl
theorem b__law_wedge (kV doc pm : Value) (an : Option Addr) (cdv ct : Value) (us : List Value) (h : us.length = i__law_wedge.ps.length) : bindArgs (PySem.W.fnOf i__law_wedge.x i__law_wedge.x (defArgs i__law_wedge.st) (defBody i__law_wedge.st) (defScope i__law_wedge.st) .none kV doc pm an cdv ct) ⟨us, []⟩ = pure (i__law_wedge.ps.zip us) := match us, h with | [_, _], _ => rfl
theorem b__law_place (kV doc pm : Value) (an : Option Addr) (cdv ct : Value) (us : List Value) (h : us.length = i__law_place.ps.length) : bindArgs (PySem.W.fnOf i__law_place.x i__law_place.x (defArgs i__law_place.st) (defBody i__law_place.st) (defScope i__law_place.st) .none kV doc pm an cdv ct) ⟨us, []⟩ = pure (i__law_place.ps.zip us) := match us, h with | [_, _, _], _ => rfl
theorem b__law_is_under (kV doc pm : Value) (an : Option Addr) (cdv ct : Value) (us : List Value) (h : us.length = i__law_is_under.ps.length) : bindArgs (PySem.W.fnOf i__law_is_under.x i__law_is_under.x (defArgs i__law_is_under.st) (defBody i__law_is_under.st) (defScope i__law_is_under.st) .none kV doc pm an cdv ct) ⟨us, []⟩ = pure (i__law_is_under.ps.zip us) := match us, h with | [_, _], _ => rfl
theorem b__law_right (kV doc pm : Value) (an : Option Addr) (cdv ct : Value) (us : List Value) (h : us.length = i__law_right.ps.length) : bindArgs (PySem.W.fnOf i__law_right.x i__law_right.x (defArgs i__law_right.st) (defBody i__law_right.st) (defScope i__law_right.st) .none kV doc pm an cdv ct) ⟨us, []⟩ = pure (i__law_right.ps.zip us) := match us, h with | [_], _ => rfl
theorem b_law (kV doc pm : Value) (an : Option Addr) (cdv ct : Value) (us : List Value) (h : us.length = i_law.ps.length) : bindArgs (PySem.W.fnOf i_law.x i_law.x (defArgs i_law.st) (defBody i_law.st) (defScope i_law.st) .none kV doc pm an cdv ct) ⟨us, []⟩ = pure (i_law.ps.zip us) := match us, h with | [_], _ => rfl
theorem lw_binds : lw.Binds := by
  intro i hi
  have hi : i ∈ [i_is_whole, i_lowest, i_turn_in, i_along_in, i_is_point_of, i_is_direction_of, i_is_integer_of, i_is_fraction_of, i_is_wedge_of, i_is_half_of, i_halves_in, i_is_below, i_is_held, i_crossing_in, i_require_wedge, i_is_place, i_half_planes, i_holds, i_crossing, i__law_bag, i__law_draw, i__law_one_of, i__law_turn, i__law_dot, i__law_lowest, i__law_planes, i__law_does_hold, i__law_crossing, i__law_direction, i__law_wedge, i__law_place, i__law_is_under, i__law_right, i_law] := hi
  simp only [List.mem_cons, List.not_mem_nil, or_false] at hi
  rcases hi with rfl | rfl | rfl | rfl | rfl | rfl | rfl | rfl | rfl | rfl | rfl | rfl | rfl | rfl | rfl | rfl | rfl | rfl | rfl | rfl | rfl | rfl | rfl | rfl | rfl | rfl | rfl | rfl | rfl | rfl | rfl | rfl | rfl | rfl
  · exact b_is_whole
  · exact b_lowest
  · exact b_turn_in
  · exact b_along_in
  · exact b_is_point_of
  · exact b_is_direction_of
  · exact b_is_integer_of
  · exact b_is_fraction_of
  · exact b_is_wedge_of
  · exact b_is_half_of
  · exact b_halves_in
  · exact b_is_below
  · exact b_is_held
  · exact b_crossing_in
  · exact b_require_wedge
  · exact b_is_place
  · exact b_half_planes
  · exact b_holds
  · exact b_crossing
  · exact b__law_bag
  · exact b__law_draw
  · exact b__law_one_of
  · exact b__law_turn
  · exact b__law_dot
  · exact b__law_lowest
  · exact b__law_planes
  · exact b__law_does_hold
  · exact b__law_crossing
  · exact b__law_direction
  · exact b__law_wedge
  · exact b__law_place
  · exact b__law_is_under
  · exact b__law_right
  · exact b_law
abbrev Rr : PySem.W.OpenRow := PySem.W.OpenLaw.row PySem.Challenge.rw_leastburn_k70_whole_places_in_wedges
theorem run (w : World) : HandSHeadRun.RunEqI Rr (PySem.W.view Rr.prog [0, 41]) (lw.hook 4) (lw.ob 4) 3000 loose w := by
  unfold HandSHeadRun.RunEqI
  kernel_rfl
end Law
open PySem PySem.W PySem.Calls PyProof.Rows in
theorem PySem.Challenge.cw_leastburn_k70_whole_places_in_wedges_holds : PySem.Challenge.rw_leastburn_k70_whole_places_in_wedges.Holds := by
  w_on; o_law
  refine HandSHeadRun.head_imp (r := OpenLaw.row PySem.Challenge.rw_leastburn_k70_whole_places_in_wedges) (q := view (OpenLaw.row PySem.Challenge.rw_leastburn_k70_whole_places_in_wedges).prog [0, 41]) (H := Law.lw.hook 4) (ob := Law.lw.ob 4) (M := 3000) (loose := Law.loose)
    (d := HandSHeadRun.topDef (OpenLaw.row PySem.Challenge.rw_leastburn_k70_whole_places_in_wedges).prog 41) (kwd := []) (Zw.Lw.ob_eq Law.lw 4)
    Law.run (by kernel_rfl) (by kernel_rfl) (by kernel_rfl)
    (by rfl) (by first | assumption | decide +kernel) (by decide +kernel)
    ⟨rfl, rfl, rfl, rfl, rfl, by decide +kernel⟩ ?hw ?hc
  case hw => w_witness2
  case hc =>
    exact Zw.law_end (l := PySem.Challenge.rw_leastburn_k70_whole_places_in_wedges) (L := Law.lw) (m := 80) (k := 60) (j := 33) (n := 63)
      (i := Law.i_law) rfl (by decide) (by kernel_rfl) Law.lw_ok Law.lw_binds ⟨rfl, by decide, by decide⟩
      rfl (by kernel_rfl) (by rw [Law.md_eq]; exact Law.main)
